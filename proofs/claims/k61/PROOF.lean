import PyProof.Rows.All
import Wide.All
import OpenK.AllK
import Wide.FinOn
import HandS.ForMost
import HandS.ForExc
import HandS.Wide
import HandS.Walk
import HandS.Zip
import HandS.TupAny
import HandS.TupMul
import HandS.IsInst
import HandS.Deep
import HandS.Style
import HandS.Lambda
import HandS.HeadHook4
import HandS.Exc
import KE.GoesEnum
import HandS.Dict
import HandS.Iter
import HandS.Head0
import HandS.Head1
import HandS.Head2
import HandS.HeadEnd
import HandS.HeadHook1
import HandS.HeadHook2
import HandS.HeadHook3
import HandS.SortInts
import HandS.TupSets
import HandS.Nested
import HandS.HeadWalk
import KE.SortData
import HandS.More
import KE.KDictPairs
import PyProof.EqKinds
import PyProof.SeqIndex
import HandS.ExcOwn
import HandS.ExcIs
import HandS.WordsExc
import PyProof.ExcBaseAll.ValueError
import HandS.ExcValue
import HandS.CallLocal
import HandS.FStr
import PyProof.ListStr
import PySem.Challenge.RW_payladders_k61_whole_texts
set_option Elab.async false
set_option linter.all false
set_option maxRecDepth 100000
set_option maxHeartbeats 0
/-! Sx: a semantic layer: every piece of code is read as a plain function over data. -/
namespace Sx
open PySem PySem.Spec PyProof.Rows L2

abbrev Dt := PyData
/-- a result: a value, an exception (its class), or nothing that is claimed -/
inductive Res (α : Type) where
  | ok (a : α) | exc (c : Str) | bad
def Res.bind {α β : Type} : Res α → (α → Res β) → Res β
  | .ok a, f => f a
  | .exc c, _ => .exc c
  | .bad, _ => .bad
@[simp] theorem Res.bind_ok {α β : Type} (a : α) (f : α → Res β) : Res.bind (.ok a) f = f a := rfl
@[simp] theorem Res.bind_exc {α β : Type} (c : Str) (f : α → Res β) : Res.bind (.exc c) f = .exc c := rfl
@[simp] theorem Res.bind_bad {α β : Type} (f : α → Res β) : Res.bind .bad f = .bad := rfl
/-- what a slot holds: data that never changes; an own list; a list of own lists; an own dict; the town -/
inductive SV where
  | d (x : Dt) | own (xs : List Dt) | ow2 (rows : List (List Dt)) | dk (kvs : List (Int × Dt)) | fd (kvs : List (Int × Dt)) | tb (kvs : List (Dt × Dt)) | fn (x : Str) | ex (c : Str) | town
abbrev Sl := List (Option SV)
abbrev Tw := Option (List Dt)

/-! ### data over heaps -/
theorem rd_mono {F F' : Hp} {a : Addr} {u : HO} (e : Same F F') (h : Rd F a u) : Rd F' a u := by
  rcases h with h | ⟨o, h⟩
  · exact .inl (e _ _ h)
  · exact .inr ⟨o, e _ _ h⟩
theorem sqT_mono {K : PySem.W.Frag} {F F' : Hp} {a : Addr} {xs : List V} (e : Same F F') (h : SqT K F a xs) : SqT K F' a xs := by
  rcases h with h | h
  · exact .inl (rd_mono e h)
  · exact .inr h
/-- a dict whose keys are tuples of ints: its entries -/
def TabO (a : Addr) (xs : List (List Key × Addr × Value)) : HO := .ext fun h => (xs.length ≤ sizeLine ∧ (a == sysModules) = false ∧ (xs.map (·.1)).Nodup) ∧ ∃ o es ep, h.get? a = some o ∧ o.ExactDict ∧ o.data = .dict es ep ∧ ∀ (P : Program) (w : World), es.toList = xs.map (entryOfKey (tupleKind (mixKind P w)))
/-- the object at a has no dict of its own -/
def PlT (K : PySem.W.Frag) (F : Hp) (a : Addr) (xs : List V) : Prop := (∃ o, F a = some (.frz o (.tup xs)) ∧ o.dict = none) ∨ ∃ o, K.lookup a = some o ∧ o.dict = none
theorem plT_mono {K : PySem.W.Frag} {F F' : Hp} {a : Addr} {xs : List V} (e : Same F F') (h : PlT K F a xs) : PlT K F' a xs := by
  rcases h with ⟨o, h1, h2⟩ | h
  · exact .inl ⟨o, e _ _ h1, h2⟩
  · exact .inr h
mutual
/-- data over a heap: a list is a tracked one -/
inductive Dq (K : PySem.W.Frag) (H : Hp) : V → Dt → Prop
  | non : Dq K H .non .none
  | bl (b : Bool) : Dq K H (.bl b) (.bool b)
  | int (i : Int) : Dq K H (.int i) (.int i)
  | str (x : Str) : Dq K H (.str x) (.str x)
  | lst {a : Addr} {xs : List V} {ds : List Dt} : SqL K H a xs → DqAll K H xs ds → Dq K H (.ref a) (.list ds)
  | tup {a : Addr} {xs : List V} {ds : List Dt} : SqT K H a xs → DqAll K H xs ds → PlT K H a xs → Dq K H (.ref a) (.tuple ds)
  | tab {a : Addr} {xs : List (List Key × Addr × Value)} {kvs : List (Dt × Dt)} : H a = some (TabO a xs) → DqTab K H xs kvs → Dq K H (.ref a) (.dict kvs)
inductive DqAll (K : PySem.W.Frag) (H : Hp) : List V → List Dt → Prop
  | nil : DqAll K H [] []
  | cons {v : V} {vs : List V} {d : Dt} {ds : List Dt} : Dq K H v d → DqAll K H vs ds → DqAll K H (v :: vs) (d :: ds)
inductive DqTab (K : PySem.W.Frag) (H : Hp) : List (List Key × Addr × Value) → List (Dt × Dt) → Prop
  | nil : DqTab K H [] []
  | cons {ks : List Int} {b : Addr} {u : Value} {v : V} {d : Dt} {xs : List (List Key × Addr × Value)} {kvs : List (Dt × Dt)} : SqT K H b (ks.map V.int) → L2.RelV v u → Dq K H v d → DqTab K H xs kvs → DqTab K H ((ks.map Sum.inl, b, u) :: xs) ((.tuple (ks.map PyData.int), d) :: kvs)
end
mutual
theorem dq_dp {K : PySem.W.Frag} {F F' : Hp} (e : Same F F') : ∀ (d : Dt) (v : V), d.canLay0 = true → Dq K F v d → Dp K F' v d
  | .none, _, _, h => by cases h; exact .non
  | .bool b, _, _, h => by cases h; exact .bl b
  | .int i, _, _, h => by cases h; exact .int i
  | .str x, _, _, h => by cases h; exact .str x
  | .list ds, _, c, h => by
    cases h with
    | lst hs ha => exact .lst (e.seq hs) (dqAll_dp e ds _ (by simpa [PyData.canLay0] using c) ha)
  | .tuple ds, _, c, h => by
    cases h with
    | tup hs ha => exact .tup (sqT_mono e hs) (dqAll_dp e ds _ (by simpa [PyData.canLay0] using c) ha)
  | .dict _, _, c, _ => nomatch c
theorem dqAll_dp {K : PySem.W.Frag} {F F' : Hp} (e : Same F F') : ∀ (ds : List Dt) (vs : List V), PyData.canLayAll0 ds = true → DqAll K F vs ds → DpAll K F' vs ds
  | [], _, _, h => by cases h; exact .nil
  | d :: ds, _, c, h => by
    have c : d.canLay0 = true ∧ PyData.canLayAll0 ds = true := by simpa [PyData.canLayAll0] using c
    cases h with
    | cons h1 h2 => exact .cons (dq_dp e d _ c.1 h1) (dqAll_dp e ds _ c.2 h2)
end
mutual
theorem dq_mono {K : PySem.W.Frag} {F F' : Hp} (e : Same F F') : ∀ (d : Dt) (v : V), Dq K F v d → Dq K F' v d
  | .none, _, h => by cases h; exact .non
  | .bool b, _, h => by cases h; exact .bl b
  | .int i, _, h => by cases h; exact .int i
  | .str x, _, h => by cases h; exact .str x
  | .list ds, _, h => by
    cases h with
    | lst hs ha => exact .lst (e.seq hs) (dqAll_mono e ds _ ha)
  | .tuple ds, _, h => by
    cases h with
    | tup hs ha hp => exact .tup (sqT_mono e hs) (dqAll_mono e ds _ ha) (plT_mono e hp)
  | .dict kvs, _, h => by
    cases h with
    | tab h1 h2 => exact .tab (e _ _ h1) (dqTab_mono e kvs _ h2)
theorem dqAll_mono {K : PySem.W.Frag} {F F' : Hp} (e : Same F F') : ∀ (ds : List Dt) (vs : List V), DqAll K F vs ds → DqAll K F' vs ds
  | [], _, h => by cases h; exact .nil
  | d :: ds, _, h => by
    cases h with
    | cons h1 h2 => exact .cons (dq_mono e d _ h1) (dqAll_mono e ds _ h2)
theorem dqTab_mono {K : PySem.W.Frag} {F F' : Hp} (e : Same F F') : ∀ (kvs : List (Dt × Dt)) (xs : List (List Key × Addr × Value)), DqTab K F xs kvs → DqTab K F' xs kvs
  | [], _, h => by cases h; exact .nil
  | (k, d) :: kvs, _, h => by
    cases h with
    | cons h1 h2 h3 h4 => exact .cons (sqT_mono e h1) h2 (dq_mono e d _ h3) (dqTab_mono e kvs _ h4)
end
section
variable {K : PySem.W.Frag} {F F' H H' : Hp} {v : V} {vs us : List V} {d : Dt} {ds es : List Dt}
theorem Dq.mono (h : Dq K F v d) (e : Same F F') : Dq K F' v d := dq_mono e d v h
theorem DqAll.mono (h : DqAll K F vs ds) (e : Same F F') : DqAll K F' vs ds := dqAll_mono e ds vs h
theorem DqAll.length : ∀ {vs : List V} {ds : List Dt}, DqAll K F vs ds → vs.length = ds.length
  | _, _, .nil => rfl
  | _, _, .cons _ t => by rw [List.length_cons, List.length_cons, DqAll.length t]
theorem DqAll.get : ∀ {vs : List V} {ds : List Dt} {i : Nat} {v : V}, DqAll K F vs ds → vs[i]? = some v → ∃ d, ds[i]? = some d ∧ Dq K F v d
  | _, _, _, _, .nil, e => by simp at e
  | _, _, 0, _, .cons h _, e => by simp at e; subst e; exact ⟨_, rfl, h⟩
  | _, _, i + 1, v, .cons _ t, e => by
    obtain ⟨d, h1, h2⟩ := DqAll.get (i := i) (v := v) t (by simpa using e)
    exact ⟨d, by simpa using h1, h2⟩
theorem DqAll.getD : ∀ {vs : List V} {ds : List Dt} {i : Nat} {d : Dt}, DqAll K F vs ds → ds[i]? = some d → ∃ v, vs[i]? = some v ∧ Dq K F v d
  | _, _, _, _, .nil, e => by simp at e
  | _, _, 0, _, .cons h _, e => by simp at e; subst e; exact ⟨_, rfl, h⟩
  | _, _, i + 1, v, .cons _ t, e => by
    obtain ⟨d, h1, h2⟩ := DqAll.getD (i := i) (d := v) t (by simpa using e)
    exact ⟨d, by simpa using h1, h2⟩
theorem DqAll.append : ∀ {vs : List V} {ds : List Dt}, DqAll K F vs ds → DqAll K F us es → DqAll K F (vs ++ us) (ds ++ es)
  | _, _, .nil, h => h
  | _, _, .cons h t, g => .cons h (DqAll.append t g)
theorem DqAll.one (h : Dq K F v d) : DqAll K F [v] [d] := .cons h .nil
theorem DqAll.take : ∀ {vs : List V} {ds : List Dt} (n : Nat), DqAll K F vs ds → DqAll K F (vs.take n) (ds.take n)
  | _, _, 0, _ => .nil
  | _, _, _ + 1, .nil => .nil
  | _, _, n + 1, .cons h t => .cons h (DqAll.take n t)
theorem DqAll.drop : ∀ {vs : List V} {ds : List Dt} (n : Nat), DqAll K F vs ds → DqAll K F (vs.drop n) (ds.drop n)
  | _, _, 0, h => h
  | _, _, _ + 1, .nil => .nil
  | _, _, n + 1, .cons _ t => DqAll.drop n t
theorem DqAll.set : ∀ {vs : List V} {ds : List Dt} (i : Nat), DqAll K F vs ds → Dq K F v d → DqAll K F (vs.set i v) (ds.set i d)
  | _, _, _, .nil, _ => .nil
  | _, _, 0, .cons _ t, g => .cons g t
  | _, _, i + 1, .cons h t, g => .cons h (DqAll.set i t g)
theorem DqAll.rep (h : DqAll K F vs ds) : ∀ k : Nat, DqAll K F (List.replicate k vs).flatten (List.replicate k ds).flatten
  | 0 => .nil
  | k + 1 => by
    rw [List.replicate_succ, List.replicate_succ, List.flatten_cons, List.flatten_cons]
    exact h.append (DqAll.rep h k)
end

/-! ### tables of code objects -/
/-- not a table -/
def NT (o : HO) : Prop := ∀ ps, o ≠ .tbl ps
theorem nt_lst {vs : List V} : NT (.lst vs) := fun _ z => nomatch z
theorem nt_dK {vs : List (Key × V)} : NT (.dK vs) := fun _ z => nomatch z
theorem nt_tab {a : Addr} {xs : List (List Key × Addr × Value)} : NT (TabO a xs) := fun _ z => by
  unfold TabO at z
  cases z
/-- defs that make lambdas -/
def lamDefs (K : PySem.W.Frag) : List He.Defn := [("greatest_part" : Str), "least_part"].filterMap fun x => match PySem.W.nsIn K mainGlobals x with
  | some (some (.ref _)) => some (x, none)
  | _ => none
def tabsOf (K : PySem.W.Frag) : List (Addr × Str) := (lamDefs K).map fun p => ((He.cT K p).2, p.1 ++ ".<locals>.<lambda>")
/-- a table: what it tells never changes -/
def TabF (F H : Hp) (P : Addr) (q : Str) : Prop := F P = none ∧ ∃ ps : Array Value, H P = some (.tbl ps) ∧ TriplesOk ps.toList ∧ ∀ (pos : Pos) (cv : Value), codeAmong pos ps.toList = some cv → ∃ c, cv = .ref c ∧ F c = some (LamX.CodeO c q)
def TabsF (T : List (Addr × Str)) (F H : Hp) : Prop := ∀ p ∈ T, TabF F H p.1 p.2
theorem TabF.grow {F H F' H' : Hp} {P : Addr} {q : Str} (t : TabF F H P q) (f : Same F F') (n : ∀ ps, H P = some (.tbl ps) → F P = none → F' P = none) (k : ∀ ps, H P = some (.tbl ps) → H' P = some (.tbl ps)) : TabF F' H' P q := by
  obtain ⟨h0, ps, h1, h2, h3⟩ := t
  refine ⟨n ps h1 h0, ps, k ps h1, h2, fun pos cv e => ?_⟩
  obtain ⟨c, e1, e2⟩ := h3 pos cv e
  exact ⟨c, e1, f _ _ e2⟩
theorem tbl_ne {H : Hp} {p P : Addr} {o : HO} {ps : Array Value} (hp : H p = some o) (ho : NT o) (e : H P = some (.tbl ps)) : P ≠ p := fun z => ho ps (by rw [z, hp] at e; exact Option.some.inj e)
theorem TabsF.ff {T : List (Addr × Str)} {F H : Hp} {p : Addr} {o u : HO} (t : TabsF T F H) (hF : F p = none) (hp : H p = some o) (ho : NT o) : TabsF T (upd F p u) H := fun p hp' => (t p hp').grow (fun b x e => by rw [upd_ne (ne_of_none e hF)]; exact e) (fun ps e n => by rw [upd_ne (tbl_ne hp ho e)]; exact n) fun _ e => e
theorem TabsF.newH {T : List (Addr × Str)} {F H : Hp} {p : Addr} {o : HO} (t : TabsF T F H) (h : H p = none) : TabsF T F (upd H p o) := fun x hx => (t x hx).grow (.refl _) (fun _ _ n => n) fun ps e => by
  rw [upd_ne (ne_of_none e h)]; exact e
theorem TabsF.new {T : List (Addr × Str)} {F H : Hp} {p : Addr} {u o : HO} (t : TabsF T F H) (hF : F p = none) (h : H p = none) : TabsF T (upd F p u) (upd H p o) := fun x hx => (t x hx).grow (fun b x e => by rw [upd_ne (ne_of_none e hF)]; exact e) (fun ps e n => by rw [upd_ne (ne_of_none e h)]; exact n) fun ps e => by
  rw [upd_ne (ne_of_none e h)]; exact e
theorem TabsF.mut {T : List (Addr × Str)} {F H : Hp} {p : Addr} {o o' : HO} (t : TabsF T F H) (hp : H p = some o) (ho : NT o) : TabsF T F (upd H p o') := fun x hx => (t x hx).grow (.refl _) (fun _ _ n => n) fun ps e => by
  rw [upd_ne (tbl_ne hp ho e)]; exact e
/-! ### lambdas -/
/-- a lambda's words -/
structure LF where
  q : Str
  params : Arguments
  body : Expr
  scope : Scope
/-- the object at f is the lambda L, its code object at c -/
def LamO (f c : Addr) (L : LF) : HO := .ext fun h => ∃ pm ctv : Value, h.get? f = some (PySem.W.kla_obj "<lambda>" L.q L.params L.body L.scope [] pm c ctv)
/-- the lambda that a call's last argument is -/
def lamLast : List Expr → Option (Arguments × Expr × Scope)
  | [] => none
  | [.Lambda p b s _] => some (p, b, s)
  | _ :: es => lamLast es
def lamBody : List Stmt → Option (Arguments × Expr × Scope)
  | [] => none
  | .Return (some (.Call _ es _ _)) _ :: _ => lamLast es
  | _ :: sts => lamBody sts
/-- the lambda within the def x -/
def lamOf (K : PySem.W.Frag) (x : Str) : Option LF := match K.lookup (He.fAd K (x, none)) with
  | some o => match o.data with
    | .func fd => match fd.body with
      | .stmts b => (lamBody b).map fun p => ⟨x ++ ".<locals>.<lambda>", p.1, p.2.1, p.2.2⟩
      | _ => none
    | _ => none
  | none => none
/-! ### how heaps grow -/
structure Gr (K : PySem.W.Frag) (M : Addr → Prop) (F H F' H' : Hp) : Prop where
  ff : Same F F'
  fh : Same F' H'
  nw : ∀ a, F' a ≠ none → F a ≠ none ∨ H a = none
  kp : ∀ a o, H a = some o → ¬ M a → NT o → H' a = some o
  th : ∀ a, H a ≠ none → H' a ≠ none
  tb : TabsF (tabsOf K) F H → TabsF (tabsOf K) F' H'
abbrev Gr0 (K : PySem.W.Frag) : Hp → Hp → Hp → Hp → Prop := Gr K (fun _ => False)
section
variable {K : PySem.W.Frag} {M M' : Addr → Prop} {F H F1 H1 F2 H2 : Hp} {p : Addr} {o : HO}
theorem Gr.refl (h : Same F H) : Gr K M F H F H := ⟨.refl _, h, fun _ e => .inl e, fun _ _ e _ _ => e, fun _ e => e, fun t => t⟩
theorem Gr.trans (a : Gr K M F H F1 H1) (b : Gr K M F1 H1 F2 H2) : Gr K M F H F2 H2 where
  ff := a.ff.trans b.ff
  fh := b.fh
  nw := fun x e => by
    rcases b.nw x e with z | z
    · exact a.nw x z
    · exact .inr (Classical.byContradiction fun q => a.th x q z)
  kp := fun x u e n k => b.kp x u (a.kp x u e n k) n k
  th := fun x e => b.th x (a.th x e)
  tb := fun t => b.tb (a.tb t)
theorem Gr.mono (a : Gr K M F H F1 H1) (h : ∀ x, M x → M' x) : Gr K M' F H F1 H1 := ⟨a.ff, a.fh, a.nw, fun x u e n => a.kp x u e fun z => n (h x z), a.th, a.tb⟩
theorem Gr.any (a : Gr0 K F H F1 H1) : Gr K M F H F1 H1 := a.mono fun _ z => z.elim
theorem same_new (h : H p = none) : Same H (upd H p o) := fun b x e => by
  rw [upd_ne (ne_of_none e h)]
  exact e
theorem same_both (s : Same F H) : Same (upd F p o) (upd H p o) := fun b x e => by
  by_cases hb : b = p
  · subst hb; rw [upd_same] at e ⊢; exact e
  · rw [upd_ne hb] at e ⊢; exact s b x e
/-- a new object that never changes -/
theorem Gr.new (s : Same F H) (h : H p = none) : Gr K M F H (upd F p o) (upd H p o) where
  ff := same_new (s.free h)
  fh := same_both s
  nw := fun a e => by
    by_cases ha : a = p
    · subst ha; exact .inr h
    · rw [upd_ne ha] at e; exact .inl e
  kp := fun a u e _ _ => same_new h a u e
  th := fun a e => by
    by_cases ha : a = p
    · subst ha; rw [upd_same]; exact fun z => nomatch z
    · rw [upd_ne ha]; exact e
  tb := fun t => t.new (s.free h) h
/-- a new object that may change -/
theorem Gr.newH (s : Same F H) (h : H p = none) : Gr K M F H F (upd H p o) where
  ff := .refl _
  fh := s.trans (same_new h)
  nw := fun a e => .inl e
  kp := fun a u e _ _ => same_new h a u e
  th := fun a e => by
    by_cases ha : a = p
    · subst ha; rw [upd_same]; exact fun z => nomatch z
    · rw [upd_ne ha]; exact e
  tb := fun t => t.newH h
theorem same_mut (s : Same F H) (h : F p = none) : Same F (upd H p o) := fun b x e => by
  rw [upd_ne (ne_of_none e h)]
  exact s b x e
end

/-! ### the state of a def that runs -/
structure Gh where
  K : PySem.W.Frag
  T0 : Option Addr
  F0 : Hp
  H0 : Hp
  ext : List (Addr × HO)
  T : Option Addr
  fp : Nat → List Addr
def Gh.tm (G : Gh) : Addr → Prop := fun a => G.T0 = some a
def TwOk (K : PySem.W.Frag) (F H : Hp) : Option Addr → Tw → Prop
  | none, none => True
  | some t, some ws => ∃ tv, H t = some (.lst tv) ∧ F t = none ∧ DqAll K F tv ws
  | _, _ => False
/-- rows of own lists -/
inductive Rows (K : PySem.W.Frag) (F H : Hp) : List Addr → List (List Dt) → Prop
  | nil : Rows K F H [] []
  | cons {q : Addr} {qs : List Addr} {vs : List V} {r : List Dt} {rs : List (List Dt)} : H q = some (.lst vs) → DqAll K F vs r → Rows K F H qs rs → Rows K F H (q :: qs) (r :: rs)
/-- the entries of a dict whose keys are ints -/
inductive KvOk (K : PySem.W.Frag) (F : Hp) : List (Key × V) → List (Int × Dt) → Prop
  | nil : KvOk K F [] []
  | cons {k : Int} {v : V} {d : Dt} {vs : List (Key × V)} {ds : List (Int × Dt)} : Dq K F v d → KvOk K F vs ds → KvOk K F ((.inl k, v) :: vs) ((k, d) :: ds)
theorem KvOk.mono {K : PySem.W.Frag} {F F' : Hp} (e : Same F F') : ∀ {vs : List (Key × V)} {ds : List (Int × Dt)}, KvOk K F vs ds → KvOk K F' vs ds
  | _, _, .nil => .nil
  | _, _, .cons h t => .cons (h.mono e) (KvOk.mono e t)
/-- an exception of the class cls at a -/
def KxO (cls : Value) (a : Addr) : HO := .ext fun h => ∃ (oe : Obj) (vs : Array Value), h.get? a = some oe ∧ L2.Zc cls none oe ∧ oe.data = .fields vs
def SlOk (K : PySem.W.Frag) (T : Option Addr) (F H : Hp) (v : V) (fp : List Addr) : SV → Prop
  | .d x => Dq K F v x
  | .own xs => ∃ p vs, v = .ref p ∧ fp = [p] ∧ H p = some (.lst vs) ∧ DqAll K F vs xs
  | .ow2 rows => ∃ p qs, v = .ref p ∧ fp = p :: qs ∧ H p = some (.lst (qs.map V.ref)) ∧ Rows K F H qs rows ∧ (p :: qs).Nodup
  | .dk kvs => ∃ p vs, v = .ref p ∧ fp = [p] ∧ H p = some (.dK vs) ∧ KvOk K F vs kvs
  | .fd kvs => ∃ p o vs, v = .ref p ∧ F p = some (.frz o (.dK vs)) ∧ KvOk K F vs kvs
  | .tb kvs => ∃ p xs, v = .ref p ∧ fp = [p] ∧ H p = some (TabO p xs) ∧ DqTab K F xs kvs
  | .fn x => ∃ f c L, v = .ref f ∧ lamOf K x = some L ∧ F f = some (LamO f c L) ∧ F c = some (LamX.CodeO c L.q)
  | .ex c => ∃ a, v = .ref a ∧ F a = some (KxO (.ref (He.ga K c)) a)
  | .town => ∃ t, T = some t ∧ v = .ref t
structure Rel (K : PySem.W.Frag) (G : Gh) (ρ : Sl) (W : Tw) (σ : L2.St) (F H : Hp) : Prop where
  gr : Gr K G.tm G.F0 G.H0 F H
  len : ρ.length = σ.length
  t0 : ∀ t, G.T0 = some t → G.T = some t
  t1 : ∀ t, G.T = some t → G.T0 = some t ∨ G.H0 t = none
  tw : TwOk K F H G.T W
  sl : ∀ (i : Nat) (sv : SV), ρ[i]? = some (some sv) → ∃ v, σ[i]? = some (some v) ∧ SlOk K G.T F H v (G.fp i) sv
  dj : ∀ (i j : Nat) (a : Addr), a ∈ G.fp i → a ∈ G.fp j → i = j
  fr : ∀ (i : Nat) (a : Addr), a ∈ G.fp i → F a = none ∧ H a ≠ none ∧ G.H0 a = none ∧ G.T ≠ some a
  ex : ∀ e ∈ G.ext, H e.1 = some e.2 ∧ F e.1 = none ∧ G.T ≠ some e.1 ∧ ∀ i, e.1 ∉ G.fp i
  xt : ∀ e ∈ G.ext, NT e.2
  tb : TabsF (tabsOf K) F H
  kk : G.K = K

section
variable {K : PySem.W.Frag} {G : Gh} {ρ : Sl} {W W' : Tw} {σ : L2.St} {F H F' H' : Hp}
theorem Rel.fh (R : Rel K G ρ W σ F H) : Same F H := R.gr.fh
theorem SlOk.keep {T : Option Addr} {v : V} {fp : List Addr} {sv : SV} (e : Same F F') (k : ∀ a o, H a = some o → NT o → a ∈ fp → H' a = some o) (h : SlOk K T F H v fp sv) : SlOk K T F' H' v fp sv := by
  cases sv with
  | d x => exact Dq.mono h e
  | own xs =>
    obtain ⟨p, vs, rfl, rfl, hp, ha⟩ := h
    exact ⟨p, vs, rfl, rfl, k p _ hp nt_lst (by simp), ha.mono e⟩
  | ow2 rows =>
    obtain ⟨p, qs, rfl, rfl, hp, hr, nd⟩ := h
    refine ⟨p, qs, rfl, rfl, k p _ hp nt_lst (by simp), ?_, nd⟩
    have : ∀ {qs' : List Addr} {rs : List (List Dt)}, (∀ a ∈ qs', a ∈ qs) → Rows K F H qs' rs → Rows K F' H' qs' rs := by
      intro qs' rs hm r
      induction r with
      | nil => exact .nil
      | cons hq a t ih => exact .cons (k _ _ hq nt_lst (List.mem_cons_of_mem _ (hm _ (by simp)))) (a.mono e) (ih fun b hb => hm b (List.mem_cons_of_mem _ hb))
    exact this (fun _ z => z) hr
  | dk kvs =>
    obtain ⟨p, vs, rfl, rfl, hp, ha⟩ := h
    exact ⟨p, vs, rfl, rfl, k p _ hp nt_dK (by simp), ha.mono e⟩
  | fd kvs =>
    obtain ⟨p, o, vs, rfl, hp, ha⟩ := h
    exact ⟨p, o, vs, rfl, e _ _ hp, ha.mono e⟩
  | tb kvs =>
    obtain ⟨p, xs, rfl, rfl, hp, ha⟩ := h
    exact ⟨p, xs, rfl, rfl, k p _ hp nt_tab (by simp), dqTab_mono e _ _ ha⟩
  | fn x =>
    obtain ⟨f, c, L, h1, h2, h3, h4⟩ := h
    exact ⟨f, c, L, h1, h2, e _ _ h3, e _ _ h4⟩
  | ex c =>
    obtain ⟨a, h1, h2⟩ := h
    exact ⟨a, h1, e _ _ h2⟩
  | town => exact h
/-- nothing that stood has changed -/
theorem Rel.grow (R : Rel K G ρ W σ F H) (g : Gr0 K F H F' H') : Rel K G ρ W σ F' H' where
  gr := R.gr.trans g.any
  len := R.len
  t0 := R.t0
  t1 := R.t1
  tw := by
    have h := R.tw
    revert h
    cases G.T <;> cases W <;> intro h
    · trivial
    · exact h
    · exact h
    · obtain ⟨tv, h1, h2, h3⟩ := h
      refine ⟨tv, g.kp _ _ h1 (fun z => z) nt_lst, ?_, h3.mono g.ff⟩
      exact Classical.byContradiction fun z => by
        rcases g.nw _ z with q | q
        · exact q h2
        · rw [h1] at q; cases q
  sl := fun i sv e => by
    obtain ⟨v, h1, h2⟩ := R.sl i sv e
    exact ⟨v, h1, h2.keep g.ff fun a o e n _ => g.kp a o e (fun z => z) n⟩
  dj := R.dj
  fr := fun i a ha => by
    obtain ⟨h1, h2, h3, h4⟩ := R.fr i a ha
    refine ⟨?_, g.th a h2, h3, h4⟩
    exact Classical.byContradiction fun z => by
      rcases g.nw _ z with q | q
      · exact q h1
      · exact h2 q
  ex := fun e he => by
    obtain ⟨h1, h2, h3⟩ := R.ex e he
    refine ⟨g.kp _ _ h1 (fun z => z) (R.xt e he), ?_, h3⟩
    exact Classical.byContradiction fun z => by
      rcases g.nw _ z with q | q
      · exact q h2
      · rw [h1] at q; cases q
  xt := R.xt
  tb := g.tb R.tb
  kk := R.kk
end

/-- an address that none of the state's changing things has -/
def Fresh (G : Gh) (p : Addr) : Prop := G.H0 p = none ∧ (∀ i, p ∉ G.fp i) ∧ G.T ≠ some p ∧ ∀ e ∈ G.ext, e.1 ≠ p
theorem Rel.fresh {K : PySem.W.Frag} {G : Gh} {ρ : Sl} {W : Tw} {σ : L2.St} {F H : Hp} (R : Rel K G ρ W σ F H) {p : Addr} (h : H p = none) : Fresh G p := by
  refine ⟨Classical.byContradiction fun z => R.gr.th p z h, fun i hi => (R.fr i p hi).2.1 h, fun e => ?_, fun e he z => ?_⟩
  · have t := R.tw
    rw [e] at t
    cases W with
    | none => exact t
    | some ws => obtain ⟨tv, h1, _⟩ := t; rw [h] at h1; cases h1
  · have := (R.ex e he).1
    rw [z, h] at this
    cases this
/-- a thing that may change is told to all: from now on it never changes -/
theorem Rel.freeze {K : PySem.W.Frag} {G : Gh} {ρ : Sl} {W : Tw} {σ : L2.St} {F H : Hp} (R : Rel K G ρ W σ F H) {p : Addr} {o : HO} (h : H p = some o) (hF : F p = none) (fr : Fresh G p) (nt : NT o := by exact nt_lst) : Rel K G ρ W σ (upd F p o) H := by
  obtain ⟨f1, f2, f3, f4⟩ := fr
  have sF : Same F (upd F p o) := same_new hF
  refine ⟨⟨R.gr.ff.trans sF, fun a u e => ?_, fun a e => ?_, R.gr.kp, R.gr.th, fun t => (R.gr.tb t).ff hF h nt⟩, R.len, R.t0, R.t1, ?_, fun i sv e => ?_, R.dj, fun i a ha => ?_, fun e he => ?_, R.xt, R.tb.ff hF h nt, R.kk⟩
  · by_cases ha : a = p
    · subst ha; rw [upd_same] at e; cases e; exact h
    · rw [upd_ne ha] at e; exact R.fh a u e
  · by_cases ha : a = p
    · subst ha; exact .inr f1
    · rw [upd_ne ha] at e; exact R.gr.nw a e
  · have t := R.tw
    revert t
    cases hT : G.T <;> cases W <;> intro t
    · trivial
    · exact t
    · exact t
    · obtain ⟨tv, h1, h2, h3⟩ := t
      exact ⟨tv, h1, by rw [upd_ne (fun z => f3 (by rw [hT, z]))]; exact h2, h3.mono sF⟩
  · obtain ⟨v, h1, h2⟩ := R.sl i sv e
    exact ⟨v, h1, h2.keep sF fun _ _ e _ _ => e⟩
  · obtain ⟨h1, h2⟩ := R.fr i a ha
    have hne : a ≠ p := fun z => f2 i (by rw [← z]; exact ha)
    exact ⟨by rw [upd_ne hne]; exact h1, h2⟩
  · obtain ⟨h1, h2, h3⟩ := R.ex e he
    exact ⟨h1, by rw [upd_ne (f4 e he)]; exact h2, h3⟩

/-! ### readings -/
def Pg {α : Type} (XE : Str → Hp → Prop) (G : Gh) (r : Res (α × Tw)) (P : α → Tw → Prop) : Prop :=
  match r with
  | .ok p => P p.1 p.2
  | .exc c => ∀ F' H', Gr G.K G.tm G.F0 G.H0 F' H' → XE c H'
  | .bad => False
section
variable {α β : Type} {XE : Str → Hp → Prop} {G : Gh}
theorem Pg.of_bind {r : Res (α × Tw)} {k : α × Tw → Res (β × Tw)} {P : β → Tw → Prop} (h : Pg XE G (r.bind k) P) : Pg XE G r fun a W' => Pg XE G (k (a, W')) P := by
  cases r with
  | ok p => exact h
  | exc c => exact h
  | bad => exact h
theorem Pg.mono {r : Res (α × Tw)} {P P' : α → Tw → Prop} (h : Pg XE G r P) (m : ∀ a W', P a W' → P' a W') : Pg XE G r P' := by
  cases r with
  | ok p => exact m _ _ h
  | exc c => exact h
  | bad => exact h
end
def ofO {α : Type} : Option α → Tw → Res (α × Tw)
  | some a, W => .ok (a, W)
  | none, _ => .bad
theorem Pg.of_ofO {α : Type} {XE : Str → Hp → Prop} {G : Gh} {o : Option α} {W : Tw} {P : α → Tw → Prop} (h : Pg XE G (ofO o W) P) : ∃ a, o = some a ∧ P a W := by
  cases o with
  | none => exact h.elim
  | some a => exact ⟨a, rfl, h⟩
/-- to be read: data, or an own list (its items are data) -/
def RB (K : PySem.W.Frag) (F H : Hp) (v : V) (d : Dt) : Prop := Dq K F v d ∨ ∃ p vs ds, v = .ref p ∧ d = .list ds ∧ H p = some (.lst vs) ∧ DqAll K F vs ds
def Stb (K : PySem.W.Frag) (G : Gh) (ρ : Sl) (σ : L2.St) (F : Hp) (v : V) (d : Dt) : Prop := ∀ F' H' W', Same F F' → Rel K G ρ W' σ F' H' → RB K F' H' v d
abbrev SE := Sl → Tw → Res (Dt × Tw)
abbrev SB := Sl → Tw → Res (Bool × Tw)
abbrev SA := Sl → Tw → Res (List Dt × Tw)
def tE (K : PySem.W.Frag) (XE : Str → Hp → Prop) (f : SE) : TE := fun σ H Q => ∃ G ρ W F, Rel K G ρ W σ F H ∧
  Pg XE G (f ρ W) fun d W' => ∀ v F' H', Same F F' → Rel K G ρ W' σ F' H' → Dq K F' v d → Q v H'
def tR (K : PySem.W.Frag) (XE : Str → Hp → Prop) (f : SE) : TE := fun σ H Q => ∃ G ρ W F, Rel K G ρ W σ F H ∧
  Pg XE G (f ρ W) fun d W' => ∀ v F' H', Same F F' → Rel K G ρ W' σ F' H' → Stb K G ρ σ F' v d → Q v H'
/-- a new list, not yet told to anyone -/
def tL (K : PySem.W.Frag) (XE : Str → Hp → Prop) (f : SA) : TE := fun σ H Q => ∃ G ρ W F, Rel K G ρ W σ F H ∧
  Pg XE G (f ρ W) fun ds W' => ∀ p vs F' H', Same F F' → Rel K G ρ W' σ F' H' → Fresh G p → H' p = some (.lst vs) → F' p = none → DqAll K F' vs ds → Q (.ref p) H'
def tT (K : PySem.W.Frag) (XE : Str → Hp → Prop) (f : SB) : TT := fun σ H Q => ∃ G ρ W F, Rel K G ρ W σ F H ∧
  Pg XE G (f ρ W) fun b W' => ∀ F' H', Same F F' → Rel K G ρ W' σ F' H' → Q b H'
def tA (K : PySem.W.Frag) (XE : Str → Hp → Prop) (f : SA) : TA := fun σ H Q => ∃ G ρ W F, Rel K G ρ W σ F H ∧
  Pg XE G (f ρ W) fun ds W' => ∀ vs F' H', Same F F' → Rel K G ρ W' σ F' H' → DqAll K F' vs ds → Q vs H'
end Sx
namespace L2
open PySem PySem.Spec PyProof.Rows Sx
section
variable {X : Cx} {e : Expr} {es : List Expr} {st : Stmt} {sts : List Stmt}
theorem PE.weak {t t' : TE} (h : PE X e t) (w : ∀ σ H Q, t' σ H Q → t σ H Q) : PE X e t' := ⟨fun pins s σ H Q I hq => h.run pins s σ H Q I (w σ H Q hq)⟩
theorem PT.weak {t t' : TT} (h : PT X e t) (w : ∀ σ H Q, t' σ H Q → t σ H Q) : PT X e t' := ⟨fun pins s σ H Q I hq => h.run pins s σ H Q I (w σ H Q hq)⟩
theorem PW.weak {t t' : TT} (h : PW X e t) (w : ∀ σ H Q, t' σ H Q → t σ H Q) : PW X e t' := ⟨fun wh pins s σ H Q I hq => h.run wh pins s σ H Q I (w σ H Q hq)⟩
theorem PA.weak {t t' : TA} (h : PA X es t) (w : ∀ σ H Q, t' σ H Q → t σ H Q) : PA X es t' := ⟨fun pos pins s σ H Q I hq => h.run pos pins s σ H Q I (w σ H Q hq)⟩
theorem PS.weak {t t' : TS} (h : PS X st t) (w : ∀ D σ H, t' D σ H → t D σ H) : PS X st t' := ⟨fun pins s σ H D I hq => h.run pins s σ H D I (w D σ H hq)⟩
theorem PSs.weak {t t' : TS} (h : PSs X sts t) (w : ∀ D σ H, t' D σ H → t D σ H) : PSs X sts t' := ⟨fun pins s σ H D I hq => h.run pins s σ H D I (w D σ H hq)⟩
end
end L2
namespace Sx
open PySem PySem.Spec PyProof.Rows L2
end Sx

namespace Sx
open PySem PySem.Spec PyProof.Rows L2

/-! ### what is read off a value -/
section
variable {K : PySem.W.Frag} {F H : Hp} {v : V}
theorem RB.int {i : Int} (h : RB K F H v (.int i)) : v = .int i := by
  rcases h with h | ⟨_, _, _, _, e, _⟩
  · cases h; rfl
  · cases e
theorem RB.bl {i : Bool} (h : RB K F H v (.bool i)) : v = .bl i := by
  rcases h with h | ⟨_, _, _, _, e, _⟩
  · cases h; rfl
  · cases e
theorem RB.str {i : Str} (h : RB K F H v (.str i)) : v = .str i := by
  rcases h with h | ⟨_, _, _, _, e, _⟩
  · cases h; rfl
  · cases e
theorem RB.non (h : RB K F H v .none) : v = .non := by
  rcases h with h | ⟨_, _, _, _, e, _⟩
  · cases h; rfl
  · cases e
theorem RB.tup {ds : List Dt} (h : RB K F H v (.tuple ds)) : ∃ a vs, v = .ref a ∧ SqT K F a vs ∧ DqAll K F vs ds := by
  rcases h with h | ⟨_, _, _, _, e, _⟩
  · cases h with
    | tup a b => exact ⟨_, _, rfl, a, b⟩
  · cases e
theorem RB.tupP {ds : List Dt} (h : RB K F H v (.tuple ds)) : ∃ a vs, v = .ref a ∧ SqT K F a vs ∧ DqAll K F vs ds ∧ PlT K F a vs := by
  rcases h with h | ⟨_, _, _, _, e, _⟩
  · cases h with
    | tup a b c => exact ⟨_, _, rfl, a, b, c⟩
  · cases e
theorem RB.lst {ds : List Dt} (h : RB K F H v (.list ds)) (s : Same F H) : ∃ a vs, v = .ref a ∧ SqL K H a vs ∧ DqAll K F vs ds := by
  rcases h with h | ⟨p, vs, ds', e1, e, hp, ha⟩
  · cases h with
    | lst a b => exact ⟨_, _, rfl, s.seq a, b⟩
  · cases e
    exact ⟨p, vs, e1, .inl (.inl hp), ha⟩
theorem RB.dp {d : Dt} (h : RB K F H v d) (s : Same F H) (c : SeqAt.shaped d = true) : Dp K H v d := by
  have c := SeqAt.canLay_of_shaped c
  rcases h with h | ⟨p, vs, ds', e1, e, hp, ha⟩
  · exact dq_dp s d v c h
  · subst e1 e
    exact .lst (.inl (.inl hp)) (dqAll_dp s _ _ (by simpa [PyData.canLay0] using c) ha)
end
/-- an operation over two values read as data -/
def RD2 (K : PySem.W.Frag) (g : Dt → Dt → Option Dt) : R2 := fun x y H Q => ∃ F d e z, Same F H ∧ RB K F H x d ∧ RB K F H y e ∧ g d e = some z ∧ ∀ v F' H', Gr0 K F H F' H' → Dq K F' v z → Q v H'
def RD1 (K : PySem.W.Frag) (g : Dt → Option Dt) : V → Hp → VK → Prop := fun x H Q => ∃ F d z, Same F H ∧ RB K F H x d ∧ g d = some z ∧ ∀ v F' H', Gr0 K F H F' H' → Dq K F' v z → Q v H'
inductive RBs (K : PySem.W.Frag) (F H : Hp) : List V → List Dt → Prop
  | nil : RBs K F H [] []
  | cons {v : V} {vs : List V} {d : Dt} {ds : List Dt} : RB K F H v d → RBs K F H vs ds → RBs K F H (v :: vs) (d :: ds)
/-- a call over values read as data -/
def RDC (K : PySem.W.Frag) (g : List Dt → Option Dt) : List V → Hp → VK → Prop := fun xs H Q => ∃ F ds z, Same F H ∧ RBs K F H xs ds ∧ g ds = some z ∧ ∀ v F' H', Gr0 K F H F' H' → Dq K F' v z → Q v H'
/-- .. that gives a new list -/
def RL2 (K : PySem.W.Frag) (g : Dt → Dt → Option (List Dt)) : R2 := fun x y H Q => ∃ F d e zs, Same F H ∧ RB K F H x d ∧ RB K F H y e ∧ g d e = some zs ∧ ∀ p vs, H p = none → DqAll K F vs zs → Q (.ref p) (upd H p (.lst vs))
def RLC (K : PySem.W.Frag) (g : List Dt → Option (List Dt)) : List V → Hp → VK → Prop := fun xs H Q => ∃ F ds zs, Same F H ∧ RBs K F H xs ds ∧ g ds = some zs ∧ ∀ p vs, H p = none → DqAll K F vs zs → Q (.ref p) (upd H p (.lst vs))
section
variable {K : PySem.W.Frag} {F H : Hp} {Q : VK}
/-- the ends: a value that stands by itself, a new tuple, a new list -/
theorem end_int {z : Dt} {i : Int} (s : Same F H) (e : z = .int i) (q : ∀ v F' H', Gr0 K F H F' H' → Dq K F' v z → Q v H') : Q (.int i) H := by subst e; exact q _ F H (.refl s) (.int i)
theorem end_bl {z : Dt} {i : Bool} (s : Same F H) (e : z = .bool i) (q : ∀ v F' H', Gr0 K F H F' H' → Dq K F' v z → Q v H') : Q (.bl i) H := by subst e; exact q _ F H (.refl s) (.bl i)
theorem end_str {z : Dt} {i : Str} (s : Same F H) (e : z = .str i) (q : ∀ v F' H', Gr0 K F H F' H' → Dq K F' v z → Q v H') : Q (.str i) H := by subst e; exact q _ F H (.refl s) (.str i)
theorem end_tup {z : Dt} {vs : List V} {ds : List Dt} {p : Addr} {o : Obj} (ho : o.dict = none) (s : Same F H) (e : z = .tuple ds) (ha : DqAll K F vs ds) (np : H p = none) (q : ∀ v F' H', Gr0 K F H F' H' → Dq K F' v z → Q v H') : Q (.ref p) (upd H p (.frz o (.tup vs))) := by
  subst e
  have g : Gr0 K F H (upd F p (.frz o (.tup vs))) (upd H p (.frz o (.tup vs))) := .new s np
  exact q _ _ _ g (.tup (.inl (.inr ⟨o, upd_same⟩)) (ha.mono g.ff) (.inl ⟨o, upd_same, ho⟩))
theorem end_lst {z : Dt} {vs : List V} {ds : List Dt} {p : Addr} (s : Same F H) (e : z = .list ds) (ha : DqAll K F vs ds) (np : H p = none) (q : ∀ v F' H', Gr0 K F H F' H' → Dq K F' v z → Q v H') : Q (.ref p) (upd H p (.lst vs)) := by
  subst e
  have g : Gr0 K F H (upd F p (.lst vs)) (upd H p (.lst vs)) := .new s np
  exact q _ _ _ g (.lst (.inl (.inl upd_same)) (ha.mono g.ff))
end
section
variable {X : Cx}
theorem slM {pins : List (Addr × Obj)} {σ : L2.St} {H : Hp} {s : Shared} {l : Addr} {xs : List V} (I : Inv X pins σ H s) (hH : SqL X.K H l xs) : xs.length ≤ sizeLine ∧ ∃ (its : List Value) (n : Nat) (sl : Array (Option Value)), Vals xs its ∧ xs.length = its.length ∧ s.heap.get? l = some { cls := .type "list", dict := none, data := .seq its.toArray n, slots := sl } := by
  obtain ⟨its, r, ⟨⟨cls, dd, data, sl⟩, n, e, hc, hd, hs⟩, z⟩ := I.list hH
  simp only at hc hd hs
  subst hc hd hs
  exact ⟨z, its, n, sl, r, r.length, e⟩
/-! lists: +, * -/
def rCatR (K : PySem.W.Frag) : R2 := fun x y H Q => ∃ l b xs zs, x = .ref l ∧ y = .ref b ∧ SqL K H l xs ∧ SqL K H b zs ∧ xs.length + zs.length ≤ sizeLine ∧ ∀ p, H p = none → Q (.ref p) (upd H p (.lst (xs ++ zs)))
theorem op_catR : OpR X (binaryOp .Add) (rCatR X.K) := by
  intro pins s σ H x y v u Q I rx ry h
  obtain ⟨l, b, xs, zs, rfl, rfl, hH, hB, hz, q⟩ := h
  cases rx
  cases ry
  obtain ⟨z, its, n, sl, r, hl, e⟩ := slM I hH
  obtain ⟨z2, its2, n2, sl2, r2, hl2, e2⟩ := slM I hB
  have ea : its.toArray ++ its2.toArray = (its ++ its2).toArray := by simp
  refine concat_meets ⟨_, e, rfl⟩ ⟨_, e2, rfl⟩ noFill_list_add seq_list_add PySem.F.slot_list_add PySem.F.entry_list_add (PySem.F.args_list_add_2 _ _) (list_addW l b its.toArray its2.toArray n n2 none none sl sl2 (by rw [List.size_toArray, List.size_toArray]; omega)) ⟨e, e2, ?_⟩
  rw [ea]
  exact ⟨.ref _, _, I.lnew (t' := s.toks) (r.append r2) (by rw [List.length_append]; omega), rfl, q _ I.fresh⟩
theorem int_rmul_listW (a : Int) (t : Tok) (l : Addr) (items : Array Value) (n : Nat) (dd : Option Addr) (sl : Array (Option Value)) :
    Meets (Builtin.«int.__rmul__» ⟨[.int a t, .ref l], []⟩) (fun _ R s => s.heap.get? l = some { cls := .type "list", dict := dd, data := .seq items n, slots := sl } ∧ R (.ok (.ret Value.notImplemented)) s) :=
  .of_wp fun prog w A R s h => by obtain ⟨hp, g, d, tk, os⟩ := s; obtain ⟨hl, h⟩ := h; wp_walk using wpAny_loadPart' hl; exact ⟨_, rfl, h⟩
theorem list_mulW (l : Addr) (items : Array Value) (n : Nat) (dd : Option Addr) (sl : Array (Option Value)) (x : Int) (u : Tok) (hc0 : ¬(!Builtin.List.listFitsIndex x) = true) (hc1 : ¬items.size * x.toNat > (2 ^ 63 - 1) / 8) (hc2 : ¬Builtin.List.listTooLong (items.size * x.toNat) = true) :
    Meets (Builtin.«list.__mul__» ⟨[.ref l, .int x u], []⟩) (fun _ R s => s.heap.get? l = some { cls := .type "list", dict := dd, data := .seq items n, slots := sl } ∧ R (.ok (.ret (Value.ref s.heap.objs.size))) { s with heap := s.heap.push { cls := Value.type "list", data := Data.seq (List.foldl (fun x1 x2 => x1 ++ x2) #[] (List.replicate (if items.isEmpty = true then 0 else x.toNat) items)) }, toks := s.toks }) :=
  .of_wp fun prog w A R s h => by
    obtain ⟨hp, g, d, tk, os⟩ := s; obtain ⟨hl, h⟩ := h
    have hsz := AutoListH.joined_fits hc2
    have f1 := AutoSeq1.idx_int
    wp_walk using wpAny_loadPart' hl
    refine wpAny_ite_false (decide_eq_false (Nat.not_lt.mpr hsz)) ?_
    wp_walk using wpAny_loadPart' hl
    exact ⟨_, rfl, h⟩
def rRepR (K : PySem.W.Frag) : R2 := fun x y H Q => ∃ l k xs, x = .ref l ∧ y = .int k ∧ SqL K H l xs ∧ -(2 ^ 63) ≤ k ∧ k < 2 ^ 63 ∧ xs.length * k.toNat ≤ sizeLine ∧
  ∀ p, H p = none → Q (.ref p) (upd H p (.lst (List.replicate k.toNat xs).flatten))
theorem op_repR : OpR X (binaryOp .Mult) (rRepR X.K) := by
  intro pins s σ H x y v u Q I rx ry h
  obtain ⟨l, k, xs, rfl, rfl, hH, h1, h2, hz, q⟩ := h
  cases rx
  obtain ⟨t, rfl⟩ := ry
  obtain ⟨z, its, n, sl, r, hl, e⟩ := slM I hH
  have hlen : its.toArray.size * k.toNat ≤ sizeLine := by rw [List.size_toArray, ← hl]; exact hz
  have hcap : ¬ its.toArray.size * k.toNat > (2 ^ 63 - 1) / 8 := by
    have : (sizeLine : Nat) ≤ (2 ^ 63 - 1) / 8 := by decide
    omega
  have hfit : ¬ (!Builtin.List.listFitsIndex k) = true := by
    rw [fitsIndex_both h1 h2]
    exact Bool.false_ne_true
  have hlong : ¬ Builtin.List.listTooLong (its.toArray.size * k.toNat) = true := by
    rw [notLongL hlen]
    exact Bool.false_ne_true
  have hnew : List.foldl (fun x1 x2 => x1 ++ x2) #[] (List.replicate (if its.toArray.isEmpty = true then 0 else k.toNat) its.toArray) = (List.replicate k.toNat its).flatten.toArray := by
    have f0 : ∀ m : Nat, List.foldl (fun x1 x2 => x1 ++ x2) #[] (List.replicate m its.toArray) = (List.replicate m its).flatten.toArray := fun m => by
      have := foldl_rep its m []
      rw [List.nil_append] at this
      exact this
    rw [f0]
    cases its with
    | nil => simp
    | cons a r' => rw [if_neg (by simp)]
  refine wpAny_binaryOp_repeat_ref (T := "list") (U := "int") (by decide) ⟨_, e, rfl⟩ (fun s' => typeIs_int s' k t) noFill_list_mul F.fills_int_mul F.slot_int_rmul repeat_list F.slot_int_index.lookup
    (call_meets F.slot_int_rmul (typeIs_int s k t) F.entry_int_rmul (F.args_int_rmul_2 _ _) (int_rmul_listW k t l its.toArray n none sl)
      ⟨e, rfl, ⟨_, e, rfl⟩, call_meets F.slot_list_mul ⟨_, e, rfl⟩ F.entry_list_mul (F.args_list_mul_2 _ _) (list_mulW l its.toArray n none sl k t hfit hcap hlong) ⟨e, ?_⟩⟩)
  rw [hnew]
  exact ⟨.ref _, _, I.lnew (t' := s.toks) (r.rep k.toNat) (by rw [PyProof.Rows.lm_len_rep_flat, Nat.mul_comm]; exact hz), rfl, q _ I.fresh⟩
/-- a tuple times 1 is itself -/
theorem tuple_mul1 (l : Addr) (items : Array Value) (n : Nat) (dd : Option Addr) (sl : Array (Option Value)) (u : Tok) :
    Meets (Builtin.«tuple.__mul__» ⟨[.ref l, .int 1 u], []⟩) (fun _ R s => s.heap.get? l = some { cls := .type "tuple", dict := dd, data := .seq items n, slots := sl } ∧ R (.ok (.ret (Value.ref l))) s) :=
  .of_wp fun prog w A R s h => by
    obtain ⟨hp, g, d, tk, os⟩ := s
    obtain ⟨hl, h⟩ := h
    have f1 := AutoSeq1.idx_int
    have c1 : (items.isEmpty || (1 : Int) == 1) = true := by simp
    wp_walk using wpAny_loadPart' hl
    repeat (first
      | (refine wpAny_ite_false (by decide) ?_; wp_walk using wpAny_loadPart' hl)
      | (refine wpAny_ite_true (by simp) ?_; wp_walk using wpAny_loadPart' hl))
    exact ⟨_, rfl, h⟩
end
/-! ### new tuples: their objects are known -/
section
variable {X : Cx}
abbrev tupO (its : List Value) : Obj := { cls := .type "tuple", data := .seq its.toArray }
theorem tup_laid {pins : List (Addr × Obj)} {σ : L2.St} {H : Hp} {s : Shared} {xs : List V} {its : List Value} {h' : Heap} {t' : Nat} (I : Inv X pins σ H { s with heap := h' }) (r : Vals xs its) (hz : xs.length ≤ sizeLine) :
    Inv X pins σ (upd H h'.objs.size (.frz (tupO its) (.tup xs))) { s with heap := h'.push (tupO its), toks := t' } :=
  I.laid (t' := t') (o := .frz (tupO its) (.tup xs)) (fun b o e => Heap.get?_push_of_some _ e) (Nat.le_refl _) ⟨Heap.get?_push_size _ rfl, hz, its, r, IsTup.new _ _⟩
def rCatP (K : PySem.W.Frag) : R2 := fun x y H Q => ∃ a b xs ys, x = .ref a ∧ y = .ref b ∧ SqT K H a xs ∧ SqT K H b ys ∧ xs.length + ys.length ≤ sizeLine ∧
  (xs = [] → Q (.ref b) H) ∧ (xs ≠ [] → ys = [] → Q (.ref a) H) ∧ (xs ≠ [] → ys ≠ [] → ∀ p o, H p = none → o.dict = none → Q (.ref p) (upd H p (.frz o (.tup (xs ++ ys)))))
theorem op_catP : OpR X (binaryOp .Add) (rCatP X.K) := by
  intro pins s σ H x y v u Q I rx ry h
  obtain ⟨a, b, xs, ys, rfl, rfl, ha, hb, hz, q0, q1, q2⟩ := h
  cases rx
  cases ry
  obtain ⟨its, r1, p1, _⟩ := I.tuple ha
  obtain ⟨its2, r2, p2, _⟩ := I.tuple hb
  by_cases hx : xs = []
  · subst hx
    cases r1
    exact cat_tup0 p1 p2 ⟨.ref b, H, I, rfl, q0 rfl⟩
  · refine HT.cat_tup p1 p2 (fun z => hx (r1.nil_iff.mp z)) (fun z => ⟨.ref a, H, I, rfl, q1 hx (r2.nil_iff.mp z)⟩) (fun z => ?_) (by rw [← r1.length, ← r2.length]; exact hz)
    exact ⟨.ref s.heap.objs.size, _, tup_laid (t' := s.toks) I (r1.append r2) (by rw [List.length_append]; exact hz), rfl, q2 hx (fun w => z (r2.nil_iff.mpr w)) _ _ (I.hok.fresh (Nat.le_refl _)) rfl⟩
theorem call_tupP : CallR X (.type "tuple") (fun xs H Q => ∃ p ys, xs = [.ref p] ∧ ((SqL X.K H p ys ∧ ∀ l o, H l = none → o.dict = none → Q (.ref l) (upd H l (.frz o (.tup ys)))) ∨ (SqT X.K H p ys ∧ Q (.ref p) H))) := by
  intro pins s σ H xs us Q I r h
  obtain ⟨p, ys, rfl, h⟩ := h
  obtain ⟨u, rfl, rx⟩ := vals1 r
  cases rx
  rcases h with ⟨hq, q⟩ | ⟨hq, q⟩
  · obtain ⟨its, r', pl, hz⟩ := I.list hq
    have hlen := r'.length
    refine call_tuple_list pl.isList (fun h' kp => ?_) (by simp only [List.size_toArray] <;> omega)
    have I1 : Inv X pins σ H { s with heap := h' } := I.kept (t' := s.toks) kp
    exact ⟨.ref h'.objs.size, _, tup_laid (t' := s.toks) I1 r' hz, rfl, q _ _ (I1.hok.fresh (Nat.le_refl _)) rfl⟩
  · obtain ⟨its, r', pl, hz⟩ := I.tuple hq
    exact call_tuple_same pl ⟨.ref p, H, I, rfl, q⟩
def rSlP (K : PySem.W.Frag) : V → Option Int → Option Int → Hp → VK → Prop := fun x lo hi H Q => ∃ a xs, x = .ref a ∧ SqT K H a xs ∧
  (HT.sIx xs.length 0 lo = 0 ∧ HT.sIx xs.length xs.length hi = xs.length → Q (.ref a) H) ∧ (¬ (HT.sIx xs.length 0 lo = 0 ∧ HT.sIx xs.length xs.length hi = xs.length) → ∀ p o, H p = none → o.dict = none → Q (.ref p) (upd H p (.frz o (.tup (cutV xs lo hi)))))
theorem sl_tupP : SlR X (rSlP X.K) := by
  intro pins s σ H x v vl vu lo hi sl Q I rx hs pl pu h
  obtain ⟨a, xs, rfl, hx, q1, q2⟩ := h
  by_cases hw : HT.sIx xs.length 0 lo = 0 ∧ HT.sIx xs.length xs.length hi = xs.length
  · exact sl_tupA pins s σ H _ v vl vu lo hi sl Q I rx hs pl pu ⟨a, xs, rfl, hx, q1, fun z => absurd hw z⟩
  · cases rx
    obtain ⟨its, r, ht, hz⟩ := I.tuple hx
    have hlen : its.toArray.size = xs.length := by rw [List.size_toArray]; exact r.length.symm
    refine ⟨"tuple", _, PyProof.Rows.slot_tuple_getitem.lookup, ht.typeIs, ?_⟩
    refine HT.getItem_tuple_cut ht hs pl pu (by rw [hlen]; exact hw) ?_ (by rw [hlen]; exact hz)
    rw [hlen]
    exact ⟨.ref s.heap.objs.size, _, tup_laid (t' := s.toks) I ((r.drop (HT.sIx xs.length 0 lo)).take (HT.sIx xs.length xs.length hi - HT.sIx xs.length 0 lo)) (Nat.le_trans (cutV_length xs lo hi) hz), rfl, q2 hw _ _ (I.hok.fresh (Nat.le_refl _)) rfl⟩
def rRepP (K : PySem.W.Frag) : R2 := fun x y H Q => ∃ l k xs, x = .ref l ∧ y = .int k ∧ SqT K H l xs ∧ xs ≠ [] ∧ 2 ≤ k ∧ k ≤ 1000 ∧ xs.length ≤ 1000 ∧ ∀ p o, H p = none → o.dict = none → Q (.ref p) (upd H p (.frz o (.tup (List.replicate k.toNat xs).flatten)))
theorem op_repP : OpR X (binaryOp .Mult) (rRepP X.K) := by
  intro pins s σ H x y v u Q I rx ry h
  obtain ⟨l, k, xs, rfl, rfl, hT, hne, h1, h2, hz, q⟩ := h
  cases rx
  obtain ⟨t, rfl⟩ := ry
  obtain ⟨its, r, ⟨⟨cls, dd, data, sl⟩, ho, hc, n, hd⟩, hs⟩ := I.tuple hT
  simp only at hc hd
  subst hc hd
  have hle : its.length = xs.length := r.length.symm
  have hi : its.toArray.isEmpty = false := by
    cases its with
    | nil => exact absurd (List.eq_nil_of_length_eq_zero hle.symm) hne
    | cons a b => rfl
  have hsz0 : its.toArray.size = xs.length := by rw [List.size_toArray, hle]
  have hm : ((its.toArray.size : Nat) : Int) * k ≤ 1000000 := by
    rw [hsz0]
    have a1 : ((xs.length : Nat) : Int) * k ≤ 1000 * k := Int.mul_le_mul_of_nonneg_right (by omega) (by omega)
    omega
  have flen : (List.replicate k.toNat its).flatten.length ≤ sizeLine := by
    rw [PyProof.Rows.lm_len_rep_flat, hle, sizeLine_eq]
    have a1 : k.toNat * xs.length ≤ 1000 * 1000 := Nat.mul_le_mul (by omega) hz
    omega
  have c0 : (decide (k < -(2 ^ 63)) || decide (k ≥ 2 ^ 63)) = false := by
    rw [decide_eq_false (by omega), decide_eq_false (by omega)] <;> rfl
  have c1 : (its.toArray.isEmpty || k == 1) = false := by
    rw [hi, Bool.false_or]
    exact beq_eq_false_iff_ne.mpr (by omega)
  have c2 : (decide (k ≤ 0) || its.toArray.isEmpty) = false := by
    rw [hi, Bool.or_false]
    exact decide_eq_false (by omega)
  have c4 : Builtin.Tuple.tupleTooMany (((its.toArray.size : Nat) : Int) * k) = false := by
    unfold Builtin.Tuple.tupleTooMany
    rw [sizeLine_eq]
    exact decide_eq_false (by omega)
  refine wpAny_binaryOp_repeat_ref (T := "tuple") (U := "int") (by decide) ⟨_, ho, rfl⟩ (fun s' => typeIs_int s' k t) noFill_tuple_mul PySem.F.fills_int_mul PySem.F.slot_int_rmul repeat_tuple PySem.F.slot_int_index.lookup
    (call_meets PySem.F.slot_int_rmul (typeIs_int s k t) PySem.F.entry_int_rmul (PySem.F.args_int_rmul_2 _ _) (int_rmul_tuple k t l its.toArray n dd sl)
      ⟨ho, rfl, ⟨_, ho, rfl⟩, call_meets PySem.F.slot_tuple_mul ⟨_, ho, rfl⟩ PySem.F.entry_tuple_mul (PySem.F.args_tuple_mul_2 _ _) (tuple_mulW l its.toArray n dd sl k t c0 c1 c2 (by omega) c4 (by rw [size_rep, List.size_toArray]; exact flen)) ⟨ho, ?_⟩⟩)
  rw [size_rep]
  exact ⟨.ref s.heap.objs.size, _, tup_laid (t' := s.toks) I (r.rep k.toNat) (by rw [PyProof.Rows.lm_len_rep_flat, sizeLine_eq]; have a1 : k.toNat * xs.length ≤ 1000 * 1000 := Nat.mul_le_mul (by omega) hz; omega), rfl, q _ _ (I.hok.fresh (Nat.le_refl _)) rfl⟩
def tTupP (t : TA) : TE := fun σ H Q => t σ H fun xs H1 => xs.length ≤ sizeLine ∧ ∀ p o, H1 p = none → o.dict = none → Q (.ref p) (upd H1 p (.frz o (.tup xs)))
theorem pe_tupP {es : List Expr} {t : TA} {pos : Pos} {x1} (h : PA X es t) : PE X (.Tuple es x1 pos) (tTupP t) := by
  refine ⟨fun pins s σ H Q I hq => ?_⟩
  refine wpAny_Tuple_spliced (thn (h.run pos pins s σ H _ I hq) fun us s1 ⟨xs, H1, I1, r, z, q⟩ => ⟨by rw [← r.length]; exact z, ?_⟩)
  exact ⟨.ref s1.heap.objs.size, _, tup_laid (t' := s1.toks) I1 r z, rfl, q _ _ (I1.hok.fresh (Nat.le_refl _)) rfl⟩
end
end Sx

namespace Sx
open PySem PySem.Spec PyProof.Rows L2

/-! ### operations over data -/
def mulOk (i j : Int) : Bool := decide (i.natAbs.log2 + j.natAbs.log2 < 1000000)
def addD : Dt → Dt → Option Dt
  | .int a, .int b => some (.int (a + b))
  | .str a, .str b => if a.length + b.length ≤ 100000 then some (.str (a ++ b)) else none
  | .tuple a, .tuple b => if a.length + b.length ≤ 100000 then some (.tuple (a ++ b)) else none
  | .list a, .list b => if a.length + b.length ≤ 100000 then some (.list (a ++ b)) else none
  | _, _ => none
def subD : Dt → Dt → Option Dt
  | .int a, .int b => some (.int (a - b))
  | _, _ => none
def mulD : Dt → Dt → Option Dt
  | .int a, .int b => if mulOk a b then some (.int (a * b)) else none
  | .list a, .int k => if k ≤ 1000 ∧ -1000 ≤ k ∧ a.length ≤ 1000 then some (.list (List.replicate k.toNat a).flatten) else none
  | .tuple a, .int k => if 1 ≤ k ∧ k ≤ 1000 ∧ a.length ≤ 1000 ∧ a ≠ [] then some (.tuple (List.replicate k.toNat a).flatten) else none
  | _, _ => none
def fdivD : Dt → Dt → Option Dt
  | .int a, .int b => if 0 < b ∧ b.natAbs.log2 < 9000 then some (.int (a / b)) else none
  | _, _ => none
def modD : Dt → Dt → Option Dt
  | .int a, .int b => if 0 < b then some (.int (a % b)) else none
  | _, _ => none
def powD : Dt → Dt → Option Dt
  | .int a, .int b => if 0 ≤ b ∧ b ≤ 1000000 ∧ a.natAbs < 2 ^ 64 then some (.int (a ^ b.toNat)) else none
  | _, _ => none
def eqD (d e : Dt) : Option Dt := if SeqAt.shaped d && SeqAt.shaped e then some (.bool (PyData.eqv d e)) else none
def neD (d e : Dt) : Option Dt := if SeqAt.shaped d && SeqAt.shaped e then some (.bool (!PyData.eqv d e)) else none
def cmpD (p : Int → Int → Bool) : Dt → Dt → Option Dt
  | .int a, .int b => some (.bool (p a b))
  | _, _ => none
abbrev ltD := cmpD fun a b => decide (a < b)
abbrev leD := cmpD fun a b => decide (a ≤ b)
abbrev gtD := cmpD fun a b => decide (b < a)
abbrev geD := cmpD fun a b => decide (b ≤ a)
def flatD : Dt → Bool
  | .none => true
  | .bool _ => true
  | .int _ => true
  | .str _ => true
  | _ => false
/-- is x one of the items -/
def inB (x : Dt) (ds : List Dt) : Bool := ds.any fun z => PyData.eqv z x
def inD' (neg : Bool) : Dt → Dt → Option Dt
  | x, .list ds => if SeqAt.shaped x && SeqAt.shaped (.list ds) then some (.bool (if neg then !inB x ds else inB x ds)) else none
  | x, .tuple ds => if flatD x && ds.all flatD then some (.bool (if neg then !inB x ds else inB x ds)) else none
  | _, _ => none
abbrev inD := inD' false
def isNone : Dt → Bool
  | .none => true
  | _ => false
/-- is None; is True, is False -/
def isD' (neg : Bool) : Dt → Dt → Option Dt
  | x, .none => some (.bool (if neg then !isNone x else isNone x))
  | .bool a, .bool b => some (.bool (if neg then !(a == b) else a == b))
  | _, _ => none
abbrev isNotD := isD' true
def atD (ds : List Dt) (i : Int) : Option Dt := atI ds i
def ixD : Dt → Dt → Option Dt
  | .tuple ds, .int i => atD ds i
  | .list ds, .int i => atD ds i
  | .str z, .int i => if z.length ≤ 100000 then (atI z.cps.toList i).map fun c => .str ⟨#[c]⟩ else none
  | _, _ => none
def negD : Dt → Option Dt
  | .int a => some (.int (-a))
  | _ => none

section
variable {X : Cx}
theorem sz5 {n : Nat} (h : n ≤ 100000) : n ≤ sizeLine := Nat.le_trans h (by decide)
theorem sz6 {n : Nat} (h : n ≤ 1000000) : n ≤ sizeLine := Nat.le_trans h (by decide)
theorem DqAll.nil_iff {K : PySem.W.Frag} {F : Hp} {vs : List V} {ds : List Dt} (h : DqAll K F vs ds) : vs = [] ↔ ds = [] := by
  cases h <;> simp
theorem op_addD : OpR X (binaryOp .Add) (RD2 X.K addD) := by
  intro pins s σ H x y v u Q I rx ry h
  obtain ⟨F, d, e, z, sm, hx, hy, hg, q⟩ := h
  cases d <;> cases e <;> simp only [addD] at hg <;> try (cases hg; done)
  · obtain rfl := hx.int
    obtain rfl := hy.int
    cases hg
    exact op_add pins s σ H _ _ v u Q I rx ry ⟨_, _, rfl, rfl, end_int sm rfl q⟩
  · obtain rfl := hx.str
    obtain rfl := hy.str
    split at hg
    · cases hg
      rename_i hl
      exact op_add_str pins s σ H _ _ v u Q I rx ry ⟨_, _, rfl, rfl, sz5 hl, end_str sm rfl q⟩
    · cases hg
  · obtain ⟨a, xs, rfl, ha, da⟩ := hx.lst sm
    obtain ⟨b, ys, rfl, hb, db⟩ := hy.lst sm
    split at hg
    · cases hg
      rename_i hl
      exact op_catR pins s σ H _ _ v u Q I rx ry ⟨a, b, xs, ys, rfl, rfl, ha, hb, sz5 (by rw [da.length, db.length]; exact hl), fun p np => end_lst sm rfl (da.append db) np q⟩
    · cases hg
  · obtain ⟨a, xs, rfl, ha, da, pa⟩ := hx.tupP
    obtain ⟨b, ys, rfl, hb, db, pb⟩ := hy.tupP
    split at hg
    · cases hg
      rename_i hl
      refine op_catP pins s σ H _ _ v u Q I rx ry ⟨a, b, xs, ys, rfl, rfl, sqT_mono sm ha, sqT_mono sm hb, sz5 (by rw [da.length, db.length]; exact hl), fun e => ?_, fun _ e => ?_, fun _ _ p o np ho => end_tup ho sm rfl (da.append db) np q⟩
      · rw [da.nil_iff] at e
        subst e
        exact q _ F H (.refl sm) (.tup hb db pb)
      · rw [db.nil_iff] at e
        subst e
        rw [List.append_nil] at q
        exact q _ F H (.refl sm) (.tup ha da pa)
    · cases hg
theorem op_subD : OpR X (binaryOp .Sub) (RD2 X.K subD) := by
  intro pins s σ H x y v u Q I rx ry h
  obtain ⟨F, d, e, z, sm, hx, hy, hg, q⟩ := h
  cases d <;> cases e <;> simp only [subD] at hg <;> try (cases hg; done)
  obtain rfl := hx.int
  obtain rfl := hy.int
  cases hg
  exact op_sub pins s σ H _ _ v u Q I rx ry ⟨_, _, rfl, rfl, end_int sm rfl q⟩
theorem mulOk_iff {i j : Int} (h : mulOk i j = true) : CMulW i j := by
  unfold mulOk at h
  have h := of_decide_eq_true h
  exact h
theorem rep1 {α : Type} (xs : List α) : (List.replicate (1 : Int).toNat xs).flatten = xs := by simp
theorem op_mulD : OpR X (binaryOp .Mult) (RD2 X.K mulD) := by
  intro pins s σ H x y v u Q I rx ry h
  obtain ⟨F, d, e, z, sm, hx, hy, hg, q⟩ := h
  cases d <;> cases e <;> simp only [mulD] at hg <;> try (cases hg; done)
  · obtain rfl := hx.int
    obtain rfl := hy.int
    split at hg
    · cases hg
      rename_i hl
      exact op_mulW pins s σ H _ _ v u Q I rx ry ⟨_, _, rfl, rfl, (mulOk_iff hl), end_int sm rfl q⟩
    · cases hg
  · obtain ⟨a, xs, rfl, ha, da⟩ := hx.lst sm
    obtain rfl := hy.int
    split at hg
    · cases hg
      rename_i k hl
      refine op_repR pins s σ H _ _ v u Q I rx ry ⟨a, k, xs, rfl, rfl, ha, by omega, by omega, ?_, fun p np => end_lst sm rfl (da.rep _) np q⟩
      rw [da.length]
      exact sz6 (Nat.le_trans (Nat.mul_le_mul hl.2.2 (show k.toNat ≤ 1000 by omega)) (by decide))
    · cases hg
  · obtain ⟨a, xs, rfl, ha, da, pa⟩ := hx.tupP
    obtain rfl := hy.int
    split at hg
    · cases hg
      rename_i k hl
      obtain ⟨h1, h2, h3, h4⟩ := hl
      by_cases hk : k = 1
      · subst hk
        rw [rep1] at q
        cases rx
        obtain ⟨t, rfl⟩ := ry
        obtain ⟨its, r, ⟨⟨cls, dd, data, sl⟩, ho, hc, n, hd⟩, hs⟩ := I.tuple (sqT_mono sm ha)
        simp only at hc hd
        subst hc hd
        refine wpAny_binaryOp_repeat_ref (T := "tuple") (U := "int") (by decide) ⟨_, ho, rfl⟩ (fun s' => typeIs_int s' 1 t) noFill_tuple_mul PySem.F.fills_int_mul PySem.F.slot_int_rmul repeat_tuple PySem.F.slot_int_index.lookup
          (call_meets PySem.F.slot_int_rmul (typeIs_int s 1 t) PySem.F.entry_int_rmul (PySem.F.args_int_rmul_2 _ _) (int_rmul_tuple 1 t a its.toArray n dd sl)
            ⟨ho, rfl, ⟨_, ho, rfl⟩, call_meets PySem.F.slot_tuple_mul ⟨_, ho, rfl⟩ PySem.F.entry_tuple_mul (PySem.F.args_tuple_mul_2 _ _) (tuple_mul1 a its.toArray n dd sl t) ⟨ho, ?_⟩⟩)
        exact ⟨.ref a, H, I, rfl, q _ F H (.refl sm) (.tup ha da pa)⟩
      · exact op_repP pins s σ H _ _ v u Q I rx ry ⟨a, k, xs, rfl, rfl, sqT_mono sm ha, fun e => h4 (da.nil_iff.mp e), by omega, h2, by rw [da.length]; exact h3, fun p o np ho => end_tup ho sm rfl (da.rep _) np q⟩
    · cases hg
theorem op_fdivD : OpR X (binaryOp .FloorDiv) (RD2 X.K fdivD) := by
  intro pins s σ H x y v u Q I rx ry h
  obtain ⟨F, d, e, z, sm, hx, hy, hg, q⟩ := h
  cases d <;> cases e <;> simp only [fdivD] at hg <;> try (cases hg; done)
  obtain rfl := hx.int
  obtain rfl := hy.int
  split at hg
  · cases hg
    rename_i hl
    exact op_fdivW pins s σ H _ _ v u Q I rx ry ⟨_, _, rfl, rfl, hl, end_int sm rfl q⟩
  · cases hg
theorem op_modD : OpR X (binaryOp .Mod) (RD2 X.K modD) := by
  intro pins s σ H x y v u Q I rx ry h
  obtain ⟨F, d, e, z, sm, hx, hy, hg, q⟩ := h
  cases d <;> cases e <;> simp only [modD] at hg <;> try (cases hg; done)
  obtain rfl := hx.int
  obtain rfl := hy.int
  split at hg
  · cases hg
    rename_i hl
    exact op_mod pins s σ H _ _ v u Q I rx ry ⟨_, _, rfl, rfl, hl, end_int sm rfl q⟩
  · cases hg
theorem op_powD : OpR X (binaryOp .Pow) (RD2 X.K powD) := by
  intro pins s σ H x y v u Q I rx ry h
  obtain ⟨F, d, e, z, sm, hx, hy, hg, q⟩ := h
  cases d <;> cases e <;> simp only [powD] at hg <;> try (cases hg; done)
  obtain rfl := hx.int
  obtain rfl := hy.int
  split at hg
  · cases hg
    rename_i hl
    exact op_pow pins s σ H _ _ v u Q I rx ry ⟨_, _, rfl, rfl, hl, end_int sm rfl q⟩
  · cases hg
theorem op_eqQ (hu : X.A.units + 64 < cLine) : OpR X (compareOp .Eq) (RD2 X.K eqD) := by
  intro pins s σ H x y v u Q I rx ry h
  obtain ⟨F, d, e, z, sm, hx, hy, hg, q⟩ := h
  unfold eqD at hg
  split at hg
  · rename_i hs
    rw [Bool.and_eq_true] at hs
    cases hg
    exact op_eqD hu pins s σ H x y v u Q I rx ry ⟨d, e, hx.dp sm hs.1, hy.dp sm hs.2, hs.1, hs.2, end_bl sm rfl q⟩
  · cases hg
theorem op_neQ (hu : X.A.units + 64 < cLine) : OpR X (compareOp .NotEq) (RD2 X.K neD) := by
  intro pins s σ H x y v u Q I rx ry h
  obtain ⟨F, d, e, z, sm, hx, hy, hg, q⟩ := h
  unfold neD at hg
  split at hg
  · rename_i hs
    rw [Bool.and_eq_true] at hs
    cases hg
    exact op_neD hu pins s σ H x y v u Q I rx ry ⟨d, e, hx.dp sm hs.1, hy.dp sm hs.2, hs.1, hs.2, end_bl sm rfl q⟩
  · cases hg
theorem op_cmpD {op : CmpOp} {p : Int → Int → Bool} (ho : OpR X (compareOp op) (rI0 fun i j => .bl (p i j))) : OpR X (compareOp op) (RD2 X.K (cmpD p)) := by
  intro pins s σ H x y v u Q I rx ry h
  obtain ⟨F, d, e, z, sm, hx, hy, hg, q⟩ := h
  cases d <;> cases e <;> simp only [cmpD] at hg <;> try (cases hg; done)
  obtain rfl := hx.int
  obtain rfl := hy.int
  cases hg
  exact ho pins s σ H _ _ v u Q I rx ry ⟨_, _, rfl, rfl, end_bl sm rfl q⟩
theorem op_ltD : OpR X (compareOp .Lt) (RD2 X.K ltD) := op_cmpD op_lt
theorem op_leD : OpR X (compareOp .LtE) (RD2 X.K leD) := op_cmpD op_le
theorem op_gtD : OpR X (compareOp .Gt) (RD2 X.K gtD) := op_cmpD op_gt
theorem op_geD : OpR X (compareOp .GtE) (RD2 X.K geD) := op_cmpD op_ge
theorem flat_of {K : PySem.W.Frag} {F : Hp} {v : V} {d : Dt} (h : Dq K F v d) (f : flatD d = true) : flatV v = true := by
  cases h <;> first | rfl | cases f
theorem flats_of {K : PySem.W.Frag} {F : Hp} : ∀ {vs : List V} {ds : List Dt}, DqAll K F vs ds → ds.all flatD = true → vs.all flatV = true
  | _, _, .nil, _ => rfl
  | _, _, .cons h t, f => by
    rw [List.all_cons, Bool.and_eq_true] at f
    rw [List.all_cons, flat_of h f.1, flats_of t f.2]
    rfl
theorem eqv_flat {K : PySem.W.Frag} {F : Hp} {v u : V} {d e : Dt} (h : Dq K F v d) (g : Dq K F u e) (f : flatD d = true) (f' : flatD e = true) : eqV v u = PyData.eqv d e := by
  cases h <;> first | (cases f; done) | (cases g <;> first | (cases f'; done) | rfl | simp [eqV, PyData.eqv])
theorem inV_of {K : PySem.W.Frag} {F : Hp} {u : V} {e : Dt} (g : Dq K F u e) (f' : flatD e = true) : ∀ {vs : List V} {ds : List Dt}, DqAll K F vs ds → ds.all flatD = true → inV u vs = inB e ds
  | _, _, .nil, _ => rfl
  | _, _, .cons h t, f => by
    rw [List.all_cons, Bool.and_eq_true] at f
    unfold inV inB
    rw [List.any_cons, List.any_cons, eqv_flat h g f.1 f']
    have := inV_of g f' t f.2
    unfold inV inB at this
    rw [this]
theorem RB.flat {K : PySem.W.Frag} {F H : Hp} {v : V} {d : Dt} (h : RB K F H v d) (f : flatD d = true) : Dq K F v d := by
  rcases h with h | ⟨_, _, _, _, e, _⟩
  · exact h
  · subst e; cases f
theorem op_inQ (hu : X.A.units + 65 < cLine) : OpR X (compareOp .In) (RD2 X.K inD) := by
  intro pins s σ H x y v u Q I rx ry h
  obtain ⟨F, d, e, z, sm, hx, hy, hg, q⟩ := h
  cases e <;> simp only [inD'] at hg <;> try (cases hg; done)
  · split at hg
    · rename_i hs
      rw [Bool.and_eq_true] at hs
      cases hg
      exact op_inD hu pins s σ H x y v u Q I rx ry ⟨d, _, hx.dp sm hs.1, hy.dp sm hs.2, hs.1, hs.2, end_bl sm rfl q⟩
    · cases hg
  · split at hg
    · rename_i hs
      rw [Bool.and_eq_true] at hs
      cases hg
      obtain ⟨b, ys, rfl, hb, db⟩ := hy.tup
      have hx' := hx.flat hs.1
      refine op_in_seq pins s σ H x _ v u Q I rx ry ⟨b, ys, rfl, .inr (sqT_mono sm hb), flat_of hx' hs.1, flats_of db hs.2, ?_⟩
      exact end_bl sm (by rw [inV_of hx' hs.1 db hs.2] <;> simp) q
    · cases hg
theorem RB.isNone {K : PySem.W.Frag} {F H : Hp} {v : V} {d : Dt} (h : RB K F H v d) : decide (v = V.non) = Sx.isNone d := by
  rcases h with h | ⟨_, _, _, e, rfl, _⟩
  · cases h <;> rfl
  · subst e; rfl
theorem op_isNotQ : OpR X (compareOp .IsNot) (RD2 X.K isNotD) := by
  intro pins s σ H x y v u Q I rx ry h
  obtain ⟨F, d, e, z, sm, hx, hy, hg, q⟩ := h
  cases e with
  | none =>
    have hg' : some (PyData.bool (!isNone d)) = some z := by cases d <;> exact hg
    cases hg'
    obtain rfl := hy.non
    exact op_notN pins s σ H x _ v u Q I rx ry ⟨rfl, by rw [hx.isNone]; exact end_bl sm rfl q⟩
  | bool b =>
    cases d <;> simp only [isD'] at hg <;> try (cases hg; done)
    cases hg
    obtain rfl := hx.bl
    obtain rfl := hy.bl
    refine op_notBl pins s σ H _ _ v u Q I rx ry ⟨_, _, rfl, rfl, end_bl sm ?_ q⟩
    cases b <;> simp
  | _ => cases d <;> simp only [isD'] at hg <;> cases hg
theorem atI_all {K : PySem.W.Frag} {F : Hp} {vs : List V} {ds : List Dt} {i : Int} {d : Dt} (a : DqAll K F vs ds) (h : atD ds i = some d) : ∃ v, atI vs i = some v ∧ Dq K F v d := by
  unfold atD atI at h
  unfold atI
  rw [a.length]
  cases e : ixN ds.length i with
  | none => rw [e] at h; cases h
  | some j =>
    rw [e] at h
    obtain ⟨v, h1, h2⟩ := a.getD (show ds[j]? = some d from h)
    exact ⟨v, h1, h2⟩
theorem ix_D : IxR X (RD2 X.K ixD) := by
  intro ve se pins s σ H x y v u Q I rx ry h hss
  obtain ⟨F, d, e, z, sm, hx, hy, hg, q⟩ := h
  cases d <;> cases e <;> simp only [ixD] at hg <;> try (cases hg; done)
  · obtain rfl := hx.str
    obtain rfl := hy.int
    split at hg
    · rename_i z' i hl
      cases e : atI z'.cps.toList i with
      | none => rw [e] at hg; cases hg
      | some c =>
        rw [e] at hg
        cases hg
        exact ix_str ve se pins s σ H _ _ v u Q I rx ry ⟨_, _, c, rfl, rfl, sz5 hl, e, end_str sm rfl q⟩ hss
    · cases hg
  · obtain ⟨a, xs, rfl, ha, da⟩ := hx.lst sm
    obtain rfl := hy.int
    obtain ⟨w, h1, h2⟩ := atI_all da hg
    exact ix_list ve se pins s σ H _ _ v u Q I rx ry ⟨a, xs, _, w, rfl, rfl, ha, h1, q w F H (.refl sm) h2⟩ hss
  · obtain ⟨a, xs, rfl, ha, da⟩ := hx.tup
    obtain rfl := hy.int
    obtain ⟨w, h1, h2⟩ := atI_all da hg
    exact ix_tup ve se pins s σ H _ _ v u Q I rx ry ⟨a, xs, _, w, rfl, rfl, sqT_mono sm ha, h1, q w F H (.refl sm) h2⟩ hss
theorem un_negD : UnR X (unaryOp .USub) (RD1 X.K negD) := by
  intro pins s σ H x v Q I rx h
  obtain ⟨F, d, z, sm, hx, hg, q⟩ := h
  cases d <;> simp only [negD] at hg <;> try (cases hg; done)
  obtain rfl := hx.int
  cases hg
  exact un_neg pins s σ H _ v Q I rx ⟨_, rfl, end_int sm rfl q⟩
end
end Sx

namespace Sx
open PySem PySem.Spec PyProof.Rows L2

/-! ### built-ins over data -/
def intsOf : List Dt → Option (List Int)
  | [] => some []
  | .int i :: r => (intsOf r).map (i :: ·)
  | _ => none
def blsOf : List Dt → Option (List Bool)
  | [] => some []
  | .bool i :: r => (blsOf r).map (i :: ·)
  | _ => none
def lenD : List Dt → Option Dt
  | [.list ds] => some (.int ds.length)
  | [.tuple ds] => some (.int ds.length)
  | [.str z] => if z.length ≤ 100000 then some (.int z.length) else none
  | _ => none
def sumD : List Dt → Option Dt
  | [.list ds] => (intsOf ds).map fun ns => .int ns.sum
  | _ => none
def allD : List Dt → Option Dt
  | [.list ds] => (blsOf ds).map fun bs => .bool (bs.all id)
  | _ => none
def tupleD : List Dt → Option Dt
  | [.list ds] => some (.tuple ds)
  | [.tuple ds] => some (.tuple ds)
  | _ => none
def listL : List Dt → Option (List Dt)
  | [.list ds] => some ds
  | [.tuple ds] => some ds
  | _ => none
def absD : List Dt → Option Dt
  | [.int i] => some (.int (if i < 0 then -i else i))
  | _ => none
def strD : List Dt → Option Dt
  | [.int i] => if i.natAbs.log2 < 1920 then some (.str (toString i)) else none
  | _ => none
section
variable {K : PySem.W.Frag} {F H : Hp}
theorem RBs.one {vs : List V} {d : Dt} (h : RBs K F H vs [d]) : ∃ v, vs = [v] ∧ RB K F H v d := by
  cases h with
  | cons a b => cases b; exact ⟨_, rfl, a⟩
theorem bls_vs : ∀ {vs : List V} {ds : List Dt} {ns : List Bool}, DqAll K F vs ds → blsOf ds = some ns → vs = ns.map V.bl
  | _, _, ns, .nil, e => by cases e; rfl
  | _, _, ns, .cons (d := d) (ds := ds) h t, e => by
    cases h <;> simp only [blsOf] at e <;> try (cases e; done)
    cases q : blsOf ds with
    | none => rw [q] at e; cases e
    | some ms =>
      rw [q] at e
      cases e
      rw [bls_vs t q]
      rfl
end
section
variable {X : Cx}
theorem cb_len : CallR X (.builtin "len") (RDC X.K lenD) := by
  intro pins s σ H xs us Q I r h
  obtain ⟨F, ds, z, sm, hx, hg, q⟩ := h
  rcases ds with _ | ⟨d, _ | ⟨e, ds⟩⟩
  · cases hg
  · obtain ⟨v, rfl, hv⟩ := hx.one
    cases d <;> simp only [lenD] at hg <;> try (cases hg; done)
    · obtain rfl := hv.str
      split at hg
      · cases hg
        rename_i hl
        exact call_len pins s σ H _ us Q I r ⟨_, _, rfl, ⟨sz5 hl, rfl⟩, end_int sm rfl q⟩
      · cases hg
    · cases hg
      obtain ⟨a, xs, rfl, ha, da⟩ := hv.lst sm
      exact call_len pins s σ H _ us Q I r ⟨_, _, rfl, .inl ⟨xs, ha, rfl⟩, end_int sm (by rw [da.length]) q⟩
    · cases hg
      obtain ⟨a, xs, rfl, ha, da⟩ := hv.tup
      exact call_len pins s σ H _ us Q I r ⟨_, _, rfl, .inr ⟨xs, sqT_mono sm ha, rfl⟩, end_int sm (by rw [da.length]) q⟩
  · cases d <;> cases hg
theorem cb_all (hc : X.calm = true) : CallR X (.builtin "all") (RDC X.K allD) := by
  intro pins s σ H xs us Q I r h
  obtain ⟨F, ds, z, sm, hx, hg, q⟩ := h
  rcases ds with _ | ⟨d, _ | ⟨e, ds⟩⟩
  · cases hg
  · obtain ⟨v, rfl, hv⟩ := hx.one
    cases d <;> simp only [allD] at hg <;> try (cases hg; done)
    rename_i xs'
    cases e : blsOf xs' with
    | none => rw [e] at hg; cases hg
    | some ns =>
      rw [e] at hg
      cases hg
      obtain ⟨a, xs, rfl, ha, da⟩ := hv.lst sm
      obtain rfl := bls_vs da e
      exact cr_all hc pins s σ H _ us Q I r ⟨a, ns, rfl, ha, end_bl sm rfl q⟩
  · cases d <;> cases hg
theorem ct_tuple : CallR X (.type "tuple") (RDC X.K tupleD) := by
  intro pins s σ H xs us Q I r h
  obtain ⟨F, ds, z, sm, hx, hg, q⟩ := h
  rcases ds with _ | ⟨d, _ | ⟨e, ds⟩⟩
  · cases hg
  · obtain ⟨v, rfl, hv⟩ := hx.one
    cases d <;> simp only [tupleD] at hg <;> try (cases hg; done)
    · cases hg
      obtain ⟨a, xs, rfl, ha, da⟩ := hv.lst sm
      exact call_tupP pins s σ H _ us Q I r ⟨a, xs, rfl, .inl ⟨ha, fun p o np ho => end_tup ho sm rfl da np q⟩⟩
    · cases hg
      obtain ⟨a, xs, rfl, ha, da, pa⟩ := hv.tupP
      exact call_tupP pins s σ H _ us Q I r ⟨a, xs, rfl, .inr ⟨sqT_mono sm ha, q _ F H (.refl sm) (.tup ha da pa)⟩⟩
  · cases d <;> cases hg
theorem ct_list : CallR X (.type "list") (RLC X.K listL) := by
  intro pins s σ H xs us Q I r h
  obtain ⟨F, ds, z, sm, hx, hg, q⟩ := h
  rcases ds with _ | ⟨d, _ | ⟨e, ds⟩⟩
  · cases hg
  · obtain ⟨v, rfl, hv⟩ := hx.one
    cases d <;> simp only [listL] at hg <;> try (cases hg; done)
    · cases hg
      obtain ⟨a, xs, rfl, ha, da⟩ := hv.lst sm
      exact call_list_of pins s σ H _ us Q I r ⟨a, xs, rfl, .inl ha, fun p np => q p xs np da⟩
    · cases hg
      obtain ⟨a, xs, rfl, ha, da⟩ := hv.tup
      exact call_list_of pins s σ H _ us Q I r ⟨a, xs, rfl, .inr (sqT_mono sm ha), fun p np => q p xs np da⟩
  · cases d <;> cases hg
theorem ct_str : CallR X (.type "str") (RDC X.K strD) := by
  intro pins s σ H xs us Q I r h
  obtain ⟨F, ds, z, sm, hx, hg, q⟩ := h
  rcases ds with _ | ⟨d, _ | ⟨e, ds⟩⟩
  · cases hg
  · obtain ⟨v, rfl, hv⟩ := hx.one
    cases d <;> simp only [strD] at hg <;> try (cases hg; done)
    split at hg
    · cases hg
      rename_i hl
      obtain rfl := hv.int
      exact call_str_int pins s σ H _ us Q I r ⟨_, rfl, hl, end_str sm rfl q⟩
    · cases hg
  · cases d <;> cases hg
end
/-- the type's name -/
def tyD : Dt → Option String
  | .none => some "NoneType"
  | .bool _ => some "bool"
  | .int _ => some "int"
  | .str _ => some "str"
  | .list _ => some "list"
  | .tuple _ => some "tuple"
  | _ => none
theorem RB.ty {K : PySem.W.Frag} {F H : Hp} {v : V} {d : Dt} {n : String} (h : RB K F H v d) (sm : Same F H) (e : tyD d = some n) : TyX K H v (.type n) := by
  cases d <;> simp only [tyD] at e <;> try (cases e; done)
  · obtain rfl := h.non; cases e; exact .base .non
  · obtain rfl := h.bl; cases e; exact .base (.bl _)
  · obtain rfl := h.int; cases e; exact .base (.int _)
  · obtain rfl := h.str; cases e; exact .base (.str _)
  · cases e
    obtain ⟨a, xs, rfl, (ha | ⟨o, ha⟩) | ⟨o, its, n, ha, hc, _⟩, da⟩ := h.lst sm
    · exact .base (.lst ha)
    · exact .base (.frz ha)
    · exact .kList ha hc
  · cases e
    obtain ⟨a, xs, rfl, ha, da⟩ := h.tup
    rcases sqT_mono sm ha with (ha | ⟨o, ha⟩) | ⟨o, its, n, ha, hc, _⟩
    · exact .base (.tup ha)
    · exact .fTuple ha
    · exact .kTuple ha hc
/-- isinstance(x, T), T a built-in type -/
def isiD (T : String) (d : Dt) : Option Dt := match tyD d with
  | some n => (kitB n T).map .bool
  | none => none
end Sx

namespace Sx
open PySem PySem.Spec PyProof.Rows L2

/-! ### expressions as functions of the slots -/
def eVar (i : Nat) : SE := fun ρ W => match ρ[i]? with
  | some (some (.d x)) => .ok (x, W)
  | _ => .bad
def eBor (i : Nat) : SE := fun ρ W => match ρ[i]? with
  | some (some (.d x)) => .ok (x, W)
  | some (some (.own xs)) => .ok (.list xs, W)
  | _ => .bad
def eC (x : Dt) : SE := fun _ W => .ok (x, W)
def eBin (g : Dt → Dt → Option Dt) (a b : SE) : SE := fun ρ W => (a ρ W).bind fun p => (b ρ p.2).bind fun q => ofO (g p.1 q.1) q.2
def eUn (g : Dt → Option Dt) (a : SE) : SE := fun ρ W => (a ρ W).bind fun p => ofO (g p.1) p.2
def aNil : SA := fun _ W => .ok ([], W)
def aCons (e : SE) (a : SA) : SA := fun ρ W => (e ρ W).bind fun p => (a ρ p.2).bind fun q => .ok (p.1 :: q.1, q.2)
def eTup (a : SA) : SE := fun ρ W => (a ρ W).bind fun p => if p.1.length ≤ 100000 then .ok (.tuple p.1, p.2) else .bad
def lLst (a : SA) : SA := fun ρ W => (a ρ W).bind fun p => if p.1.length ≤ 100000 then .ok p else .bad
def eFrz (f : SA) : SE := fun ρ W => (f ρ W).bind fun p => .ok (.list p.1, p.2)
def eCB (g : List Dt → Option Dt) (a : SA) : SE := fun ρ W => (a ρ W).bind fun p => ofO (g p.1) p.2
def lCB (g : List Dt → Option (List Dt)) (a : SA) : SA := fun ρ W => (a ρ W).bind fun p => ofO (g p.1) p.2
def asB : Dt → Option Bool
  | .bool b => some b
  | _ => none
def bOf (e : SE) : SB := fun ρ W => (e ρ W).bind fun p => ofO (asB p.1) p.2
def bAnd (a b : SB) : SB := fun ρ W => (a ρ W).bind fun p => if p.1 = true then b ρ p.2 else .ok (false, p.2)
def bOr (a b : SB) : SB := fun ρ W => (a ρ W).bind fun p => if p.1 = true then .ok (true, p.2) else b ρ p.2
def bNot (a : SB) : SB := fun ρ W => (a ρ W).bind fun p => .ok (!p.1, p.2)
def eAnd (a b : SE) : SE := fun ρ W => (bOf a ρ W).bind fun p => if p.1 = true then b ρ p.2 else .ok (.bool false, p.2)
def eNot (a : SE) : SE := fun ρ W => (bOf a ρ W).bind fun p => .ok (.bool (!p.1), p.2)
def eIf (c : SB) (a b : SE) : SE := fun ρ W => (c ρ W).bind fun p => if p.1 = true then a ρ p.2 else b ρ p.2
def eChain (g g' : Dt → Dt → Option Dt) (a b c : SE) : SE := fun ρ W => (a ρ W).bind fun p => (b ρ p.2).bind fun q => (ofO ((g p.1 q.1).bind asB) q.2).bind fun k =>
  if k.1 = true then (c ρ q.2).bind fun r => ofO (g' q.1 r.1) r.2 else .ok (.bool false, q.2)
section
variable {X : Cx} {XE : Str → Hp → Prop} {e a b c : Expr} {es : List Expr} {pos : Pos} {fa fb fc : SE} {ga : SA}
/-- args that are only read -/
def tAR (K : PySem.W.Frag) (XE : Str → Hp → Prop) (f : SA) : TA := fun σ H Q => ∃ G ρ W F, Rel K G ρ W σ F H ∧
  Pg XE G (f ρ W) fun ds W' => ∀ vs F' H', Same F F' → Rel K G ρ W' σ F' H' → (∀ F2 H2 W2, Same F' F2 → Rel K G ρ W2 σ F2 H2 → RBs K F2 H2 vs ds) → Q vs H'
theorem d_var {i : Nat} {x : Str} (h : PE X (.Name x pos) (tVar i)) : PE X (.Name x pos) (tE X.K XE (eVar i)) := by
  refine h.weak fun σ H Q ⟨G, ρ, W, F, R, p⟩ => ?_
  unfold eVar at p
  split at p
  · rename_i y hy
    obtain ⟨v, h1, h2⟩ := R.sl i _ hy
    exact ⟨v, h1, p v F H (.refl _) R h2⟩
  · exact p.elim
theorem d_bor {i : Nat} {x : Str} (h : PE X (.Name x pos) (tVar i)) : PE X (.Name x pos) (tR X.K XE (eBor i)) := by
  refine h.weak fun σ H Q ⟨G, ρ, W, F, R, p⟩ => ?_
  unfold eBor at p
  split at p
  · rename_i y hy
    obtain ⟨v, h1, h2⟩ := R.sl i _ hy
    exact ⟨v, h1, p v F H (.refl _) R fun F' H' W' s _ => .inl (Dq.mono h2 s)⟩
  · rename_i xs hy
    obtain ⟨v, h1, h2⟩ := R.sl i _ hy
    refine ⟨v, h1, p v F H (.refl _) R fun F' H' W' s R' => ?_⟩
    obtain ⟨v', h1', p', vs', e1, _, h3, h4⟩ := R'.sl i _ hy
    rw [h1] at h1'
    cases h1'
    exact .inr ⟨p', vs', xs, e1, rfl, h3, h4⟩
  · exact p.elim
theorem d_r (h : PE X e (tE X.K XE fa)) : PE X e (tR X.K XE fa) := by
  refine h.weak fun σ H Q ⟨G, ρ, W, F, R, p⟩ => ⟨G, ρ, W, F, R, p.mono fun d W' q v F' H' s R' hv => q v F' H' s R' fun F2 H2 W2 s2 _ => .inl (hv.mono s2)⟩
theorem d_c {v : V} {d : Dt} (h : PE X e (tC v)) (hd : ∀ F, Dq X.K F v d) : PE X e (tE X.K XE (eC d)) := by
  refine h.weak fun σ H Q ⟨G, ρ, W, F, R, p⟩ => ?_
  exact p v F H (.refl _) R (hd F)
theorem d_int {i : Int} {j : Nat} : PE X (.Constant (.int i) j pos) (tE X.K XE (eC (.int i))) := d_c pe_int fun _ => .int i
theorem d_str {i : Str} {j : Nat} : PE X (.Constant (.str i) j pos) (tE X.K XE (eC (.str i))) := d_c pe_str fun _ => .str i
theorem d_bl {i : Bool} {j : Nat} : PE X (.Constant (.bool i) j pos) (tE X.K XE (eC (.bool i))) := d_c pe_bl fun _ => .bl i
theorem d_non {j : Nat} : PE X (.Constant .none j pos) (tE X.K XE (eC .none)) := d_c pe_non fun _ => .non
theorem tOp_of {g : Dt → Dt → Option Dt} {σ : L2.St} {H : Hp} {Q : VK} (h : tE X.K XE (eBin g fa fb) σ H Q) : tOp (RD2 X.K g) (tR X.K XE fa) (tR X.K XE fb) σ H Q := by
  obtain ⟨G, ρ, W, F, R, p⟩ := h
  refine ⟨G, ρ, W, F, R, p.of_bind.mono fun d W1 q v F1 H1 s1 R1 st1 => ⟨G, ρ, W1, F1, R1, q.of_bind.mono fun e W2 q2 y F2 H2 s2 R2 st2 => ?_⟩⟩
  obtain ⟨z, hz, q3⟩ := q2.of_ofO
  exact ⟨F2, d, e, z, R2.fh, st1 F2 H2 W2 s2 R2, st2 F2 H2 W2 (.refl _) R2, hz, fun w F' H' g0 hw => q3 w F' H' ((s1.trans s2).trans g0.ff) (R2.grow g0) hw⟩
theorem d_bin {op : Operator} {g : Dt → Dt → Option Dt} (ho : OpR X (binaryOp op) (RD2 X.K g)) (ha : PE X a (tR X.K XE fa)) (hb : PE X b (tR X.K XE fb)) : PE X (.BinOp a op b pos) (tE X.K XE (eBin g fa fb)) :=
  (pe_op ho ha hb).weak fun _ _ _ => tOp_of
theorem d_cmp {op : CmpOp} {g : Dt → Dt → Option Dt} (ho : OpR X (compareOp op) (RD2 X.K g)) (ha : PE X a (tR X.K XE fa)) (hb : PE X b (tR X.K XE fb)) (hm : behindInMarks op b = false) : PE X (.Compare a [op] [b] pos) (tE X.K XE (eBin g fa fb)) :=
  (pe_cmpR ho ha hb hm).weak fun _ _ _ => tOp_of
theorem d_ix {g : Dt → Dt → Option Dt} (ho : IxR X (RD2 X.K g)) (ha : PE X a (tR X.K XE fa)) (hb : PE X b (tR X.K XE fb)) (hs : PlainIx b) : PE X (.Subscript a b pos) (tE X.K XE (eBin g fa fb)) :=
  (pe_ix ho ha hb hs).weak fun _ _ _ => tOp_of
theorem d_un {op : UnaryOp} {g : Dt → Option Dt} (ho : UnR X (unaryOp op) (RD1 X.K g)) (ha : PE X a (tR X.K XE fa)) : PE X (.UnaryOp op a pos) (tE X.K XE (eUn g fa)) := by
  refine (pe_un ho ha).weak fun σ H Q ⟨G, ρ, W, F, R, p⟩ => ?_
  refine ⟨G, ρ, W, F, R, p.of_bind.mono fun d W1 q v F1 H1 s1 R1 st1 => ?_⟩
  obtain ⟨z, hz, q3⟩ := q.of_ofO
  exact ⟨F1, d, z, R1.fh, st1 F1 H1 W1 (.refl _) R1, hz, fun w F' H' g0 hw => q3 w F' H' (s1.trans g0.ff) (R1.grow g0) hw⟩
/-! tests -/
theorem test_of {σ : L2.St} {H : Hp} {Q : Bool → Hp → Prop} (h : tT X.K XE (bOf fa) σ H Q) : tE X.K XE fa σ H fun x H' => ∃ k, x = .bl k ∧ Q k H' := by
  obtain ⟨G, ρ, W, F, R, p⟩ := h
  refine ⟨G, ρ, W, F, R, p.of_bind.mono fun d W1 q v F1 H1 s1 R1 hv => ?_⟩
  obtain ⟨k, hk, q3⟩ := q.of_ofO
  cases d <;> simp only [asB] at hk <;> try (cases hk; done)
  cases hk
  cases hv
  exact ⟨_, rfl, q3 F1 H1 s1 R1⟩
theorem c_val (h : PE X e (tE X.K XE fa)) (he : ∀ whole, isTrue e X.env whole = (do let v ← whole; standAt e.pos; holding [v] (truthy v)) := by intro _; rfl) : PT X e (tT X.K XE (bOf fa)) :=
  (pt_val h he).weak fun _ _ _ => test_of
theorem c_cmp {op : CmpOp} {g : Dt → Dt → Option Dt} (ho : OpR X (compareOp op) (RD2 X.K g)) (ha : PE X a (tR X.K XE fa)) (hb : PE X b (tR X.K XE fb)) (hm : behindInMarks op b = false) : PT X (.Compare a [op] [b] pos) (tT X.K XE (bOf (eBin g fa fb))) :=
  (pt_cmpR ho ha hb hm).weak fun _ _ _ h => tOp_of (test_of h)
variable {ba bb : SB} {rest : List Expr}
theorem c_and1 (ha : PT X a (tT X.K XE ba)) : PW X (.BoolOp .And [a] pos) (tT X.K XE ba) := pw_and1 ha
theorem c_or1 (ha : PT X a (tT X.K XE ba)) : PW X (.BoolOp .Or [a] pos) (tT X.K XE ba) := pw_or1 ha
theorem c_and (ha : PT X a (tT X.K XE ba)) (hb : PW X (.BoolOp .And (b :: rest) pos) (tT X.K XE bb)) : PW X (.BoolOp .And (a :: b :: rest) pos) (tT X.K XE (bAnd ba bb)) := by
  refine (pw_and ha hb).weak fun σ H Q ⟨G, ρ, W, F, R, p⟩ => ?_
  refine ⟨G, ρ, W, F, R, p.of_bind.mono fun d W1 q F1 H1 s1 R1 => ?_⟩
  cases d with
  | true => exact ⟨G, ρ, W1, F1, R1, Pg.mono q fun k W2 q2 F2 H2 s2 R2 => q2 F2 H2 (s1.trans s2) R2⟩
  | false => exact q F1 H1 s1 R1
theorem c_or (ha : PT X a (tT X.K XE ba)) (hb : PW X (.BoolOp .Or (b :: rest) pos) (tT X.K XE bb)) : PW X (.BoolOp .Or (a :: b :: rest) pos) (tT X.K XE (bOr ba bb)) := by
  refine (pw_or ha hb).weak fun σ H Q ⟨G, ρ, W, F, R, p⟩ => ?_
  refine ⟨G, ρ, W, F, R, p.of_bind.mono fun d W1 q F1 H1 s1 R1 => ?_⟩
  cases d with
  | false => exact ⟨G, ρ, W1, F1, R1, Pg.mono q fun k W2 q2 F2 H2 s2 R2 => q2 F2 H2 (s1.trans s2) R2⟩
  | true => exact q F1 H1 s1 R1
theorem c_not (ha : PT X a (tT X.K XE ba)) : PT X (.UnaryOp .Not a pos) (tT X.K XE (bNot ba)) := by
  refine (pt_not ha).weak fun σ H Q ⟨G, ρ, W, F, R, p⟩ => ?_
  exact ⟨G, ρ, W, F, R, p.of_bind.mono fun d W1 q F1 H1 s1 R1 => q F1 H1 s1 R1⟩
/-! and, or, not as values -/
theorem bl_of {σ : L2.St} {H : Hp} {G : Gh} {ρ : Sl} {W : Tw} {F : Hp} {β : Type} {k : Bool × Tw → Res (β × Tw)} {P : β → Tw → Prop} {Q : VK} (R : Rel X.K G ρ W σ F H) (p : Pg XE G ((bOf fa ρ W).bind k) P)
    (hq : ∀ (d : Bool) W1 F1 H1, Same F F1 → Rel X.K G ρ W1 σ F1 H1 → Pg XE G (k (d, W1)) P → Q (.bl d) H1) : tE X.K XE fa σ H Q := by
  refine ⟨G, ρ, W, F, R, p.of_bind.of_bind.mono fun d W1 q v F1 H1 s1 R1 hv => ?_⟩
  obtain ⟨b, hb, q2⟩ := q.of_ofO
  cases d <;> simp only [asB] at hb <;> try (cases hb; done)
  cases hb
  cases hv
  exact hq _ W1 F1 H1 s1 R1 q2
theorem d_one {op} (h : PE X a (tE X.K XE fa)) : PE X (.BoolOp op [a] pos) (tE X.K XE fa) := pe_one h
theorem d_and (ha : PE X a (tE X.K XE fa)) (hb : PE X (.BoolOp .And (b :: rest) pos) (tE X.K XE fb)) : PE X (.BoolOp .And (a :: b :: rest) pos) (tE X.K XE (eAnd fa fb)) := by
  refine (pe_and ha hb).weak fun σ H Q ⟨G, ρ, W, F, R, p⟩ => bl_of R p fun d W1 F1 H1 s1 R1 q => ⟨d, rfl, ?_⟩
  cases d with
  | true => exact ⟨G, ρ, W1, F1, R1, Pg.mono q fun k W2 q2 v F2 H2 s2 R2 => q2 v F2 H2 (s1.trans s2) R2⟩
  | false => exact q _ F1 H1 s1 R1 (.bl false)
theorem d_not (ha : PE X a (tE X.K XE fa)) : PE X (.UnaryOp .Not a pos) (tE X.K XE (eNot fa)) := by
  refine (pe_not ha).weak fun σ H Q ⟨G, ρ, W, F, R, p⟩ => bl_of R p fun d W1 F1 H1 s1 R1 q => ⟨d, rfl, ?_⟩
  exact q _ F1 H1 s1 R1 (.bl _)
theorem d_if (hc : PT X c (tT X.K XE ba)) (ha : PE X a (tE X.K XE fa)) (hb : PE X b (tE X.K XE fb)) : PE X (.IfExp c a b pos) (tE X.K XE (eIf ba fa fb)) := by
  refine (pe_ifExp hc ha hb).weak fun σ H Q ⟨G, ρ, W, F, R, p⟩ => ?_
  refine ⟨G, ρ, W, F, R, p.of_bind.mono fun d W1 q F1 H1 s1 R1 => ?_⟩
  cases d with
  | true => exact ⟨G, ρ, W1, F1, R1, Pg.mono q fun k W2 q2 v F2 H2 s2 R2 => q2 v F2 H2 (s1.trans s2) R2⟩
  | false => exact ⟨G, ρ, W1, F1, R1, Pg.mono q fun k W2 q2 v F2 H2 s2 R2 => q2 v F2 H2 (s1.trans s2) R2⟩
theorem chain_of {g g' : Dt → Dt → Option Dt} {σ : L2.St} {H : Hp} {Q : VK} (h : tE X.K XE (eChain g g' fa fb fc) σ H Q) : tChain (RD2 X.K g) (RD2 X.K g') (tR X.K XE fa) (tR X.K XE fb) (tR X.K XE fc) σ H Q := by
  obtain ⟨G, ρ, W, F, R, p⟩ := h
  refine ⟨G, ρ, W, F, R, p.of_bind.mono fun d W1 q v F1 H1 s1 R1 st1 => ⟨G, ρ, W1, F1, R1, q.of_bind.mono fun e W2 q2 y F2 H2 s2 R2 st2 => ?_⟩⟩
  obtain ⟨k, hk, q3⟩ := q2.of_bind.of_ofO
  cases hz : g d e with
  | none => rw [hz] at hk; cases hk
  | some z =>
    rw [hz] at hk
    have hk' : asB z = some k := hk
    cases z <;> simp only [asB] at hk' <;> try (cases hk'; done)
    cases hk'
    refine ⟨F2, d, e, _, R2.fh, st1 F2 H2 W2 s2 R2, st2 F2 H2 W2 (.refl _) R2, hz, fun w F' H' g0 hw => ?_⟩
    cases hw
    refine ⟨_, rfl, ?_⟩
    cases k with
    | true =>
      refine ⟨G, ρ, W2, F', R2.grow g0, q3.of_bind.mono fun r W3 q4 u F3 H3 s3 R3 st3 => ?_⟩
      obtain ⟨z', hz', q5⟩ := q4.of_ofO
      exact ⟨F3, e, r, z', R3.fh, st2 F3 H3 W3 (g0.ff.trans s3) R3, st3 F3 H3 W3 (.refl _) R3, hz', fun w F4 H4 g4 hw => q5 w F4 H4 ((((s1.trans s2).trans g0.ff).trans s3).trans g4.ff) (R3.grow g4) hw⟩
    | false => exact q3 _ F' H' ((s1.trans s2).trans g0.ff) (R2.grow g0) (.bl false)
theorem d_chain {op op' : CmpOp} {g g' : Dt → Dt → Option Dt} (ho : OpR X (compareOp op) (RD2 X.K g)) (ho' : OpR X (compareOp op') (RD2 X.K g')) (ha : PE X a (tR X.K XE fa)) (hb : PE X b (tR X.K XE fb)) (hc : PE X c (tR X.K XE fc))
    (hm : lastMarks [op, op'] [b, c] = false := by with_unfolding_all rfl) : PE X (.Compare a [op, op'] [b, c] pos) (tE X.K XE (eChain g g' fa fb fc)) := (pe_chain ho ho' ha hb hc hm).weak fun _ _ _ => chain_of
theorem c_chain {op op' : CmpOp} {g g' : Dt → Dt → Option Dt} (ho : OpR X (compareOp op) (RD2 X.K g)) (ho' : OpR X (compareOp op') (RD2 X.K g')) (ha : PE X a (tR X.K XE fa)) (hb : PE X b (tR X.K XE fb)) (hc : PE X c (tR X.K XE fc))
    (hm : lastMarks [op, op'] [b, c] = false := by with_unfolding_all rfl) : PT X (.Compare a [op, op'] [b, c] pos) (tT X.K XE (bOf (eChain g g' fa fb fc))) := (pt_chain ho ho' ha hb hc hm).weak fun _ _ _ h => chain_of (test_of h)
/-! arguments -/
theorem a_nil : PA X [] (tA X.K XE aNil) := pa_nil.weak fun σ H Q ⟨G, ρ, W, F, R, p⟩ => p [] F H (.refl _) R .nil
theorem a_cons (ha : PE X e (tE X.K XE fa)) (hr : PA X es (tA X.K XE ga)) (hs : starEach (e :: es) X.env = (false, eval e X.env) :: starEach es X.env := by rfl) : PA X (e :: es) (tA X.K XE (aCons fa ga)) := by
  refine (pa_cons ha hr hs).weak fun σ H Q ⟨G, ρ, W, F, R, p⟩ => ?_
  exact ⟨G, ρ, W, F, R, p.of_bind.mono fun d W1 q v F1 H1 s1 R1 hv => ⟨G, ρ, W1, F1, R1, q.of_bind.mono fun ds W2 q2 vs F2 H2 s2 R2 hvs => q2 _ F2 H2 (s1.trans s2) R2 (.cons (hv.mono s2) hvs)⟩⟩
theorem r_nil : PA X [] (tAR X.K XE aNil) := pa_nil.weak fun σ H Q ⟨G, ρ, W, F, R, p⟩ => p [] F H (.refl _) R fun _ _ _ _ _ => .nil
theorem r_cons (ha : PE X e (tR X.K XE fa)) (hr : PA X es (tAR X.K XE ga)) (hs : starEach (e :: es) X.env = (false, eval e X.env) :: starEach es X.env := by rfl) : PA X (e :: es) (tAR X.K XE (aCons fa ga)) := by
  refine (pa_cons ha hr hs).weak fun σ H Q ⟨G, ρ, W, F, R, p⟩ => ?_
  exact ⟨G, ρ, W, F, R, p.of_bind.mono fun d W1 q v F1 H1 s1 R1 hv => ⟨G, ρ, W1, F1, R1, q.of_bind.mono fun ds W2 q2 vs F2 H2 s2 R2 hvs => q2 _ F2 H2 (s1.trans s2) R2 fun F3 H3 W3 s3 R3 => .cons (hv F3 H3 W3 (s2.trans s3) R3) (hvs F3 H3 W3 s3 R3)⟩⟩
theorem d_tup {x1} (h : PA X es (tA X.K XE ga)) : PE X (.Tuple es x1 pos) (tE X.K XE (eTup ga)) := by
  refine (pe_tupP h).weak fun σ H Q ⟨G, ρ, W, F, R, p⟩ => ?_
  refine ⟨G, ρ, W, F, R, p.of_bind.mono fun ds W1 q vs F1 H1 s1 R1 hv => ?_⟩
  by_cases hl : ds.length ≤ 100000
  · have q' : ∀ v F' H', Same F F' → Rel X.K G ρ W1 σ F' H' → Dq X.K F' v (.tuple ds) → Q v H' := by
      have q1 := q
      simp only [hl, if_true] at q1
      exact q1
    refine ⟨sz5 (by rw [hv.length]; exact hl), fun np o hp ho => ?_⟩
    have g : Gr0 X.K F1 H1 (upd F1 np (.frz o (.tup vs))) (upd H1 np (.frz o (.tup vs))) := .new R1.fh hp
    exact q' _ _ _ (s1.trans g.ff) (R1.grow g) (.tup (.inl (.inr ⟨o, upd_same⟩)) (hv.mono g.ff) (.inl ⟨o, upd_same, ho⟩))
  · simp only [hl, if_false] at q
    exact q.elim
theorem l_lst (h : PA X es (tA X.K XE ga)) : PE X (.List es pos) (tL X.K XE (lLst ga)) := by
  refine (pe_lst h).weak fun σ H Q ⟨G, ρ, W, F, R, p⟩ => ?_
  refine ⟨G, ρ, W, F, R, p.of_bind.mono fun ds W1 q vs F1 H1 s1 R1 hv => ?_⟩
  by_cases hl : ds.length ≤ 100000
  · simp only [hl, if_true] at q
    refine ⟨sz5 (by rw [hv.length]; exact hl), fun np hp => ?_⟩
    have g : Gr0 X.K F1 H1 F1 (upd H1 np (.lst vs)) := .newH R1.fh hp
    exact q np vs F1 _ s1 (R1.grow g) (R1.fresh hp) upd_same (R1.fh.free hp) hv
  · simp only [hl, if_false] at q
    exact q.elim
/-- a new list, told to all -/
theorem d_frz (h : PE X e (tL X.K XE ga)) : PE X e (tE X.K XE (eFrz ga)) := by
  refine h.weak fun σ H Q ⟨G, ρ, W, F, R, p⟩ => ⟨G, ρ, W, F, R, p.of_bind.mono fun ds W1 q np vs F1 H1 s1 R1 fr hp hF hv => ?_⟩
  have sF : Same F1 (upd F1 np (.lst vs)) := same_new hF
  exact q _ (upd F1 np (.lst vs)) H1 (s1.trans sF) (R1.freeze hp hF fr) (.lst (.inl (.inl upd_same)) (hv.mono sF))
/-! calls of built-ins -/
theorem tCB_of {g : List Dt → Option Dt} {σ : L2.St} {H : Hp} {Q : VK} (h : tE X.K XE (eCB g ga) σ H Q) : tCB (RDC X.K g) (tAR X.K XE ga) σ H Q := by
  obtain ⟨G, ρ, W, F, R, p⟩ := h
  refine ⟨G, ρ, W, F, R, p.of_bind.mono fun ds W1 q vs F1 H1 s1 R1 st => ?_⟩
  obtain ⟨z, hz, q3⟩ := q.of_ofO
  exact ⟨F1, ds, z, R1.fh, st F1 H1 W1 (.refl _) R1, hz, fun w F' H' g0 hw => q3 w F' H' (s1.trans g0.ff) (R1.grow g0) hw⟩
theorem lCB_of {g : List Dt → Option (List Dt)} {σ : L2.St} {H : Hp} {Q : VK} (h : tL X.K XE (lCB g ga) σ H Q) : tCB (RLC X.K g) (tAR X.K XE ga) σ H Q := by
  obtain ⟨G, ρ, W, F, R, p⟩ := h
  refine ⟨G, ρ, W, F, R, p.of_bind.mono fun ds W1 q vs F1 H1 s1 R1 st => ?_⟩
  obtain ⟨z, hz, q3⟩ := q.of_ofO
  refine ⟨F1, ds, z, R1.fh, st F1 H1 W1 (.refl _) R1, hz, fun np us hp hv => ?_⟩
  have g : Gr0 X.K F1 H1 F1 (upd H1 np (.lst us)) := .newH R1.fh hp
  exact q3 np us F1 _ s1 (R1.grow g) (R1.fresh hp) upd_same (R1.fh.free hp) hv
variable {x : Str} {p : Pos} {id : String}
theorem d_callB {g : List Dt → Option Dt} (hc : CallR X (.builtin id) (RDC X.K g)) (hg : Gl X x) (hm : X.mg x = none) (hv : bootBuiltins x = some (.builtin id)) (ha : PA X (e :: es) (tAR X.K XE ga)) (hn : x ≠ "__name__" := by decide) (hdb : (x == ("__debug__" : Str)) = false := by decide)
    (he : starEach (e :: es) X.env = (false, eval e X.env) :: starEach es X.env := by rfl) (hpl : (backTo pos (starEach es X.env)).any (·.1) = false := by rfl) : PE X (.Call (.Name x p) (e :: es) [] pos) (tE X.K XE (eCB g ga)) := (pe_callB hc hg hm hv ha hn hdb he hpl).weak fun _ _ _ => tCB_of
theorem d_callTy {g : List Dt → Option Dt} (hc : CallR X (.type id) (RDC X.K g)) (hg : Gl X x) (hm : X.mg x = none) (hv : bootBuiltins x = some (.type id)) (ha : PA X (e :: es) (tAR X.K XE ga)) (hn : x ≠ "__name__" := by decide) (hdb : (x == ("__debug__" : Str)) = false := by decide)
    (he : starEach (e :: es) X.env = (false, eval e X.env) :: starEach es X.env := by rfl) (hpl : (backTo pos (starEach es X.env)).any (·.1) = false := by rfl) : PE X (.Call (.Name x p) (e :: es) [] pos) (tE X.K XE (eCB g ga)) := (pe_callTy hc hg hm hv ha hn hdb he hpl).weak fun _ _ _ => tCB_of
theorem l_callTy {g : List Dt → Option (List Dt)} (hc : CallR X (.type id) (RLC X.K g)) (hg : Gl X x) (hm : X.mg x = none) (hv : bootBuiltins x = some (.type id)) (ha : PA X (e :: es) (tAR X.K XE ga)) (hn : x ≠ "__name__" := by decide) (hdb : (x == ("__debug__" : Str)) = false := by decide)
    (he : starEach (e :: es) X.env = (false, eval e X.env) :: starEach es X.env := by rfl) (hpl : (backTo pos (starEach es X.env)).any (·.1) = false := by rfl) : PE X (.Call (.Name x p) (e :: es) [] pos) (tL X.K XE (lCB g ga)) := (pe_callTy hc hg hm hv ha hn hdb he hpl).weak fun _ _ _ => lCB_of
/-- isinstance(e, T), T a built-in type's name -/
theorem d_isi {n : String} {t : Str} {pt : Pos} (hg : Gl X "isinstance") (hm : X.mg "isinstance" = none) (hgt : Gl X t) (hmt : X.mg t = none) (hvt : bootBuiltins t = some (.type n)) (ha : PE X a (tR X.K XE fa)) (hn : t ≠ "__name__" := by decide) (hdt : (t == ("__debug__" : Str)) = false := by decide)
    (he : starEach [a, .Name t pt] X.env = (false, eval a X.env) :: starEach [.Name t pt] X.env := by rfl) (he2 : starEach [.Name t pt] X.env = (false, eval (.Name t pt) X.env) :: starEach [] X.env := by rfl) (hpl : (backTo pos (starEach [.Name t pt] X.env)).any (·.1) = false := by rfl) :
    PE X (.Call (.Name "isinstance" p) [a, .Name t pt] [] pos) (tE X.K XE (eUn (isiD n) fa)) := by
  refine (pe_callB call_isi hg hm (by decide +kernel) (pa_cons ha (pa_cons (pe_bltn (v := .ty n) hgt hmt hvt rfl hn hdt) pa_nil he2) he) (by decide) (by decide) he hpl).weak fun σ H Q ⟨G, ρ, W, F, R, p⟩ => ?_
  refine ⟨G, ρ, W, F, R, p.of_bind.mono fun d W1 q v F1 H1 s1 R1 st1 => ?_⟩
  obtain ⟨z, hz, q3⟩ := q.of_ofO
  have rb := st1 F1 H1 W1 (.refl _) R1
  unfold isiD at hz
  cases ht : tyD d with
  | none => rw [ht] at hz; cases hz
  | some m =>
    rw [ht] at hz
    cases hk : kitB m n with
    | none => simp only [hk] at hz; cases hz
    | some b =>
      simp only [hk] at hz
      cases hz
      exact ⟨v, .ty n, .type m, .type n, b, rfl, .ty n, rb.ty R1.fh ht, kit_ty hk, q3 _ F1 H1 s1 R1 (.bl b)⟩
end
end Sx

namespace Sx
open PySem PySem.Spec PyProof.Rows L2

/-! ### slices -/
def cutD (xs : List Dt) (lo hi : Option Int) : List Dt := (xs.drop (HT.sIx xs.length 0 lo)).take (HT.sIx xs.length xs.length hi - HT.sIx xs.length 0 lo)
def sliceD (d : Dt) (lo hi : Option Int) : Option Dt := match d with
  | .tuple ds => some (.tuple (cutD ds lo hi))
  | .list ds => some (.list (cutD ds lo hi))
  | .str z => if z.length ≤ 100000 then some (.str (cutS z lo hi)) else none
  | _ => none
abbrev SO := Sl → Tw → Res (Option Int × Tw)
def oNone : SO := fun _ W => .ok (none, W)
def asI : Dt → Option Int
  | .int i => some i
  | _ => none
def oSome (e : SE) : SO := fun ρ W => (e ρ W).bind fun p => ofO ((asI p.1).map some) p.2
def eSlice (e : SE) (lo hi : SO) : SE := fun ρ W => (e ρ W).bind fun p => (lo ρ p.2).bind fun l => (hi ρ l.2).bind fun h => ofO (sliceD p.1 l.1 h.1) h.2
def tO (K : PySem.W.Frag) (XE : Str → Hp → Prop) (f : SO) : TO := fun σ H Q => ∃ G ρ W F, Rel K G ρ W σ F H ∧
  Pg XE G (f ρ W) fun o W' => ∀ F' H', Same F F' → Rel K G ρ W' σ F' H' → Q o H'
theorem DqAll.cut {K : PySem.W.Frag} {F : Hp} {vs : List V} {ds : List Dt} (h : DqAll K F vs ds) (lo hi : Option Int) : DqAll K F (cutV vs lo hi) (cutD ds lo hi) := by
  unfold cutV cutD
  rw [h.length]
  exact (h.drop _).take _
section
variable {X : Cx} {XE : Str → Hp → Prop} {e a b c : Expr} {es : List Expr} {pos p2 : Pos} {fa fb fc : SE} {ga gb : SA} {lo hi : Option Expr} {fl fh : SO}
theorem o_none : PO X none (tO X.K XE oNone) := ⟨fun pins s σ H Q I ⟨G, ρ, W, F, R, p⟩ => po_none.run pins s σ H Q I (p F H (.refl _) R)⟩
theorem o_some (h : PE X e (tE X.K XE fa)) : PO X (some e) (tO X.K XE (oSome fa)) := ⟨fun pins s σ H Q I ⟨G, ρ, W, F, R, p⟩ => (po_some h).run pins s σ H Q I ⟨G, ρ, W, F, R, p.of_bind.mono fun d W1 q v F1 H1 s1 R1 hv => by
  obtain ⟨o, ho, q2⟩ := q.of_ofO
  cases d <;> simp only [asI] at ho <;> try (cases ho; done)
  cases ho
  cases hv
  exact ⟨_, rfl, q2 F1 H1 s1 R1⟩⟩⟩
def rSlD (K : PySem.W.Frag) : V → Option Int → Option Int → Hp → VK → Prop := fun x lo hi H Q => ∃ F d z, Same F H ∧ RB K F H x d ∧ sliceD d lo hi = some z ∧ ∀ v F' H', Gr0 K F H F' H' → Dq K F' v z → Q v H'
theorem sl_D : SlR X (rSlD X.K) := by
  intro pins s σ H x v vl vu lo hi sl Q I rx hs pl pu h
  obtain ⟨F, d, z, sm, hx, hg, q⟩ := h
  cases d <;> simp only [sliceD] at hg <;> try (cases hg; done)
  · obtain rfl := hx.str
    split at hg
    · cases hg
      rename_i hl
      exact sl_str pins s σ H _ v vl vu lo hi sl Q I rx hs pl pu ⟨_, rfl, sz5 hl, end_str sm rfl q⟩
    · cases hg
  · cases hg
    obtain ⟨a, xs, rfl, ha, da⟩ := hx.lst sm
    exact sl_list pins s σ H _ v vl vu lo hi sl Q I rx hs pl pu ⟨a, xs, rfl, ha, fun p np => end_lst sm rfl (da.cut lo hi) np q⟩
  · cases hg
    obtain ⟨a, xs, rfl, ha, da, pa⟩ := hx.tupP
    refine sl_tupP pins s σ H _ v vl vu lo hi sl Q I rx hs pl pu ⟨a, xs, rfl, sqT_mono sm ha, fun w => ?_, fun _ p o np ho => end_tup ho sm rfl (da.cut lo hi) np q⟩
    have hc := da.cut lo hi
    have e : cutV xs lo hi = xs := by
      unfold cutV
      rw [w.1, w.2, List.drop_zero, Nat.sub_zero, List.take_length]
    rw [e] at hc
    exact q _ F H (.refl sm) (.tup ha hc pa)
theorem d_slice (he : PE X e (tR X.K XE fa)) (hl : PO X lo (tO X.K XE fl)) (hu : PO X hi (tO X.K XE fh)) : PE X (.Subscript e (.Slice lo hi none p2) pos) (tE X.K XE (eSlice fa fl fh)) := by
  refine (pe_slice sl_D he hl hu).weak fun σ H Q ⟨G, ρ, W, F, R, p⟩ => ?_
  refine ⟨G, ρ, W, F, R, p.of_bind.mono fun d W1 q v F1 H1 s1 R1 st1 => ⟨G, ρ, W1, F1, R1, q.of_bind.mono fun l W2 q2 F2 H2 s2 R2 => ⟨G, ρ, W2, F2, R2, q2.of_bind.mono fun u W3 q3 F3 H3 s3 R3 => ?_⟩⟩⟩
  obtain ⟨z, hz, q4⟩ := q3.of_ofO
  exact ⟨F3, d, z, R3.fh, st1 F3 H3 W3 (s2.trans s3) R3, hz, fun w F' H' g0 hw => q4 w F' H' (((s1.trans s2).trans s3).trans g0.ff) (R3.grow g0) hw⟩

/-! ### new lists by + and * -/
def addL : Dt → Dt → Option (List Dt)
  | .list a, .list b => if a.length + b.length ≤ 100000 then some (a ++ b) else none
  | _, _ => none
def lBin (g : Dt → Dt → Option (List Dt)) (a b : SE) : SA := fun ρ W => (a ρ W).bind fun p => (b ρ p.2).bind fun q => ofO (g p.1 q.1) q.2
theorem op_addL : OpR X (binaryOp .Add) (RL2 X.K addL) := by
  intro pins s σ H x y v u Q I rx ry h
  obtain ⟨F, d, e, z, sm, hx, hy, hg, q⟩ := h
  cases d <;> cases e <;> simp only [addL] at hg <;> try (cases hg; done)
  obtain ⟨a, xs, rfl, ha, da⟩ := hx.lst sm
  obtain ⟨b, ys, rfl, hb, db⟩ := hy.lst sm
  split at hg
  · cases hg
    rename_i hl
    exact op_catR pins s σ H _ _ v u Q I rx ry ⟨a, b, xs, ys, rfl, rfl, ha, hb, sz5 (by rw [da.length, db.length]; exact hl), fun p np => q p _ np (da.append db)⟩
  · cases hg
theorem l_bin {op : Operator} {g : Dt → Dt → Option (List Dt)} (ho : OpR X (binaryOp op) (RL2 X.K g)) (ha : PE X a (tR X.K XE fa)) (hb : PE X b (tR X.K XE fb)) : PE X (.BinOp a op b pos) (tL X.K XE (lBin g fa fb)) := by
  refine (pe_op ho ha hb).weak fun σ H Q ⟨G, ρ, W, F, R, p⟩ => ?_
  refine ⟨G, ρ, W, F, R, p.of_bind.mono fun d W1 q v F1 H1 s1 R1 st1 => ⟨G, ρ, W1, F1, R1, q.of_bind.mono fun e W2 q2 y F2 H2 s2 R2 st2 => ?_⟩⟩
  obtain ⟨z, hz, q3⟩ := q2.of_ofO
  refine ⟨F2, d, e, z, R2.fh, st1 F2 H2 W2 s2 R2, st2 F2 H2 W2 (.refl _) R2, hz, fun np vs hp hv => ?_⟩
  have g : Gr0 X.K F2 H2 F2 (upd H2 np (.lst vs)) := .newH R2.fh hp
  exact q3 np vs F2 _ (s1.trans s2) (R2.grow g) (R2.fresh hp) upd_same (R2.fh.free hp) hv
end

/-! ### promises and calls -/
def spP (K : PySem.W.Frag) (n : Nat) (Fs : List Dt → Res Dt) : Sp := fun vs H Q _ => ∃ F ds, Same F H ∧ TabsF (tabsOf K) F H ∧ DqAll K F vs ds ∧ ds.length = n ∧ match Fs ds with
  | .ok r => ∀ v F' H', Gr0 K F H F' H' → Dq K F' v r → Q v H'
  | _ => False
/-- .. that gives a new list -/
def spL (K : PySem.W.Frag) (n : Nat) (Fs : List Dt → Res (List Dt)) : Sp := fun vs H Q _ => ∃ F ds, Same F H ∧ TabsF (tabsOf K) F H ∧ DqAll K F vs ds ∧ ds.length = n ∧ match Fs ds with
  | .ok r => ∀ p us F' H', Gr0 K F H F' H' → H p = none → H' p = some (.lst us) → F' p = none → DqAll K F' us r → Q (.ref p) H'
  | _ => False
/-- .. whose second argument is the town, which it may change -/
def spT (K : PySem.W.Frag) (n : Nat) (Fs : List Dt → List Dt → Res (Dt × List Dt)) : Sp := fun vs H Q _ => ∃ F d ds v0 t vr tv ws, vs = v0 :: .ref t :: vr ∧ Same F H ∧ TabsF (tabsOf K) F H ∧ Dq K F v0 d ∧ DqAll K F vr ds ∧ ds.length = n ∧
  H t = some (.lst tv) ∧ F t = none ∧ DqAll K F tv ws ∧ match Fs (d :: ds) ws with
  | .ok r => ∀ v F' H' tv', Gr K (fun a => a = t) F H F' H' → H' t = some (.lst tv') → F' t = none → DqAll K F' tv' r.2 → Dq K F' v r.1 → Q v H'
  | _ => False
def resT {α : Type} : Res α → Tw → Res (α × Tw)
  | .ok r, W => .ok (r, W)
  | _, _ => .bad
def eCall (n : Nat) (Fs : List Dt → Res Dt) (a : SA) : SE := fun ρ W => (a ρ W).bind fun p => if p.1.length = n then resT (Fs p.1) p.2 else .bad
def lCall (n : Nat) (Fs : List Dt → Res (List Dt)) (a : SA) : SA := fun ρ W => (a ρ W).bind fun p => if p.1.length = n then resT (Fs p.1) p.2 else .bad
def twnT : Res (Dt × List Dt) → Res (Dt × Tw)
  | .ok r => .ok (r.1, some r.2)
  | _ => .bad
def eCallT (n : Nat) (Fs : List Dt → List Dt → Res (Dt × List Dt)) (e : SE) (i : Nat) (a : SA) : SE := fun ρ W => (e ρ W).bind fun p => match ρ[i]? with
  | some (some .town) => (a ρ p.2).bind fun q => match q.2 with
    | some ws => if q.1.length = n then twnT (Fs (p.1 :: q.1) ws) else .bad
    | none => .bad
  | _ => .bad
theorem Pg.of_resT {α : Type} {XE : Str → Hp → Prop} {G : Gh} {r : Res α} {W : Tw} {P : α → Tw → Prop} (h : Pg XE G (resT r W) P) : ∃ a, r = .ok a ∧ P a W := by
  cases r with
  | ok a => exact ⟨a, rfl, h⟩
  | exc c => exact h.elim
  | bad => exact h.elim
theorem Rel.newTown {K : PySem.W.Frag} {G : Gh} {ρ : Sl} {W W' : Tw} {σ : L2.St} {F H F' H' : Hp} {t : Addr} {tv' : List V} {ws' : List Dt} (R : Rel K G ρ W σ F H) (hT : G.T = some t) (g : Gr K (fun a => a = t) F H F' H') (h1 : H' t = some (.lst tv')) (h2 : F' t = none) (h3 : DqAll K F' tv' ws') :
    Rel K G ρ (some ws') σ F' H' := by
  have noF : ∀ a, F a = none → H a ≠ none → F' a = none := fun a hF hH => Classical.byContradiction fun z => by
    rcases g.nw a z with q | q
    · exact q hF
    · exact hH q
  refine ⟨⟨R.gr.ff.trans g.ff, g.fh, fun a e => ?_, fun a o e n nt => ?_, fun a e => g.th a (R.gr.th a e), fun t => g.tb (R.gr.tb t)⟩, R.len, R.t0, R.t1, ?_, fun i sv e => ?_, R.dj, fun i a ha => ?_, fun e he => ?_, R.xt, g.tb R.tb, R.kk⟩
  · rcases g.nw a e with z | z
    · exact R.gr.nw a z
    · exact .inr (Classical.byContradiction fun q => R.gr.th a q z)
  · refine g.kp a o (R.gr.kp a o e n nt) (fun z => ?_) nt
    subst z
    rcases R.t1 a hT with q | q
    · exact n q
    · rw [e] at q; cases q
  · rw [hT]
    exact ⟨tv', h1, h2, h3⟩
  · obtain ⟨v, e1, e2⟩ := R.sl i sv e
    exact ⟨v, e1, e2.keep g.ff fun a o ho nt hf => g.kp a o ho (fun z => (R.fr i a hf).2.2.2 (by rw [hT, z])) nt⟩
  · obtain ⟨e1, e2, e3, e4⟩ := R.fr i a ha
    exact ⟨noF a e1 e2, g.th a e2, e3, e4⟩
  · obtain ⟨e1, e2, e3, e4⟩ := R.ex e he
    have hn : e.1 ≠ t := fun z => e3 (by rw [hT, z])
    exact ⟨g.kp _ _ e1 hn (R.xt e he), noF _ e2 (by rw [e1]; exact fun z => nomatch z), e3, e4⟩
theorem Pg.of_ite {α : Type} {XE : Str → Hp → Prop} {G : Gh} {c : Prop} [Decidable c] {r : Res (α × Tw)} {P : α → Tw → Prop} (h : Pg XE G (if c then r else .bad) P) : c ∧ Pg XE G r P := by
  by_cases hc : c
  · rw [if_pos hc] at h; exact ⟨hc, h⟩
  · rw [if_neg hc] at h; exact h.elim
section
variable {X : Cx} {XE : Str → Hp → Prop} {e a : Expr} {es : List Expr} {pos p pt : Pos} {fa : SE} {ga : SA} {k n : Nat} {f : Addr} {fd : FuncData} {ps : List Str} {x t : Str}
theorem call_of {Fs : List Dt → Res Dt} {E : XK} {σ : L2.St} {H : Hp} {Q : VK} (h : tE X.K XE (eCall n Fs ga) σ H Q) : tCall (spP X.K n Fs) [] E (tA X.K XE ga) σ H Q := by
  obtain ⟨G, ρ, W, F, R, p⟩ := h
  refine ⟨G, ρ, W, F, R, p.of_bind.mono fun ds W1 q vs F1 H1 s1 R1 hv => ?_⟩
  obtain ⟨hl, q⟩ := Pg.of_ite q
  obtain ⟨r, hr, q⟩ := Pg.of_resT q
  rw [List.append_nil]
  refine ⟨F1, ds, R1.fh, R1.tb, hv, hl, ?_⟩
  rw [hr]
  exact fun v F' H' g hw => q v F' H' (s1.trans g.ff) (R1.grow g) hw
theorem lcall_of {Fs : List Dt → Res (List Dt)} {E : XK} {σ : L2.St} {H : Hp} {Q : VK} (h : tL X.K XE (lCall n Fs ga) σ H Q) : tCall (spL X.K n Fs) [] E (tA X.K XE ga) σ H Q := by
  obtain ⟨G, ρ, W, F, R, p⟩ := h
  refine ⟨G, ρ, W, F, R, p.of_bind.mono fun ds W1 q vs F1 H1 s1 R1 hv => ?_⟩
  obtain ⟨hl, q⟩ := Pg.of_ite q
  obtain ⟨r, hr, q⟩ := Pg.of_resT q
  rw [List.append_nil]
  refine ⟨F1, ds, R1.fh, R1.tb, hv, hl, ?_⟩
  rw [hr]
  exact fun np us F' H' g hp h2 h3 hw => q np us F' H' (s1.trans g.ff) (R1.grow g) (R1.fresh hp) h2 h3 hw
theorem d_call {Fs : List Dt → Res Dt} (F : FnOk X.prog X.w X.K X.mg X.base CX0 k f fd ps (spP X.K n Fs)) (hr : Room k X.A) (hg : Gl X x) (hm : X.mg x = some (.ref f)) (hk : PySem.W.keepIn X.K (.ref f) = true) (hb : Binds X.K fd ps []) (ha : PA X (e :: es) (tA X.K XE ga))
    (hdb : (x == ("__debug__" : Str)) = false := by decide) (he : starEach (e :: es) X.env = (false, eval e X.env) :: starEach es X.env := by rfl) (hpl : (backTo pos (starEach es X.env)).any (·.1) = false := by rfl) :
    PE X (.Call (.Name x p) (e :: es) [] pos) (tE X.K XE (eCall n Fs ga)) := (pe_call F hr hg hm hk hb .nil pass0 ha hdb he hpl).weak fun _ _ _ => call_of
theorem l_call {Fs : List Dt → Res (List Dt)} (F : FnOk X.prog X.w X.K X.mg X.base CX0 k f fd ps (spL X.K n Fs)) (hr : Room k X.A) (hg : Gl X x) (hm : X.mg x = some (.ref f)) (hk : PySem.W.keepIn X.K (.ref f) = true) (hb : Binds X.K fd ps []) (ha : PA X (e :: es) (tA X.K XE ga))
    (hdb : (x == ("__debug__" : Str)) = false := by decide) (he : starEach (e :: es) X.env = (false, eval e X.env) :: starEach es X.env := by rfl) (hpl : (backTo pos (starEach es X.env)).any (·.1) = false := by rfl) :
    PE X (.Call (.Name x p) (e :: es) [] pos) (tL X.K XE (lCall n Fs ga)) := (pe_call F hr hg hm hk hb .nil pass0 ha hdb he hpl).weak fun _ _ _ => lcall_of
theorem d_callT {Fs : List Dt → List Dt → Res (Dt × List Dt)} {i : Nat} (F : FnOk X.prog X.w X.K X.mg X.base CX0 k f fd ps (spT X.K n Fs)) (hr : Room k X.A) (hg : Gl X x) (hm : X.mg x = some (.ref f)) (hk : PySem.W.keepIn X.K (.ref f) = true) (hb : Binds X.K fd ps [])
    (h0 : PE X a (tE X.K XE fa)) (ht : PE X (.Name t pt) (tVar i)) (ha : PA X es (tA X.K XE ga))
    (hdb : (x == ("__debug__" : Str)) = false := by decide) (he : starEach (a :: .Name t pt :: es) X.env = (false, eval a X.env) :: starEach (.Name t pt :: es) X.env := by rfl) (he2 : starEach (.Name t pt :: es) X.env = (false, eval (.Name t pt) X.env) :: starEach es X.env := by rfl) (hpl : (backTo pos (starEach (.Name t pt :: es) X.env)).any (·.1) = false := by rfl) :
    PE X (.Call (.Name x p) (a :: .Name t pt :: es) [] pos) (tE X.K XE (eCallT n Fs fa i ga)) := by
  refine (pe_call F hr hg hm hk hb .nil pass0 (pa_cons h0 (pa_cons ht ha he2) he) hdb he hpl).weak fun σ H Q h => ?_
  obtain ⟨G, ρ, W, F, R, p⟩ := h
  refine ⟨G, ρ, W, F, R, p.of_bind.mono fun d W1 q v0 F1 H1 s1 R1 hv0 => ?_⟩
  simp only at q
  split at q
  · rename_i ht
    obtain ⟨v, h1, t, h2, rfl⟩ := R1.sl i _ ht
    refine ⟨_, h1, ⟨G, ρ, W1, F1, R1, q.of_bind.mono fun ds W2 q2 vs F2 H2 s2 R2 hvs => ?_⟩⟩
    simp only at q2
    split at q2
    · rename_i ws
      obtain ⟨hl, q2⟩ := Pg.of_ite q2
      have tw := R2.tw
      rw [h2] at tw
      obtain ⟨tv, t1, t2, t3⟩ := tw
      refine ⟨F2, d, ds, v0, t, vs, tv, ws, by rw [List.append_nil], R2.fh, R2.tb, hv0.mono s2, hvs, hl, t1, t2, t3, ?_⟩
      cases hF : Fs (d :: ds) ws with
      | ok r =>
        rw [hF] at q2
        exact fun w F' H' tv' g k1 k2 k3 hw => q2 w F' H' ((s1.trans s2).trans g.ff) (R2.newTown (W' := some r.2) h2 g k1 k2 k3) hw
      | exc c => rw [hF] at q2; exact q2.elim
      | bad => rw [hF] at q2; exact q2.elim
    · exact q2.elim
  · exact q.elim
end
end Sx

namespace Sx
open PySem PySem.Spec PyProof.Rows L2

/-! ### what is walked -/
abbrev Rl := PySem.W.Frag → Hp → V → Dt → Prop
class Opn (D : Rl) : Prop where
  op : ∀ {K : PySem.W.Frag} {F : Hp} {v : V} {ds : List Dt}, D K F v (.tuple ds) → ∃ a xs, v = .ref a ∧ SqT K F a xs ∧ DqAll K F xs ds
instance : Opn Dq := ⟨fun h => by cases h with | tup a b c => exact ⟨_, _, rfl, a, b⟩⟩
def WalkD (D : Rl) (K : PySem.W.Frag) (F : Hp) (J : It) (ds : List Dt) : Prop := Walk J ds.length (fun H2 => ∃ F2, Same F F2 ∧ Same F2 H2)
  (fun i H2 x H3 => ∀ F2, Same F F2 → Same F2 H2 → ∃ F3 d, ds[i]? = some d ∧ Gr0 K F2 H2 F3 H3 ∧ D K F3 x d)
def tI (D : Rl) (K : PySem.W.Frag) (XE : Str → Hp → Prop) (f : SA) : TI := fun σ H R => ∃ G ρ W F, Rel K G ρ W σ F H ∧
  Pg XE G (f ρ W) fun ds W' => ∀ J F' H', Same F F' → Rel K G ρ W' σ F' H' → WalkD D K F' J ds → R J H'
end Sx
namespace L2
theorem PI.weak {X : Cx} {tg e : PySem.Expr} {t t' : TI} (h : PI X tg e t) (w : ∀ σ H R, t' σ H R → t σ H R) : PI X tg e t' := ⟨fun pins s σ H R I hq => h.run pins s σ H R I (w σ H R hq)⟩
theorem PG.weak {X : Cx} {tg : PySem.Expr} {t t' : TG} (h : PG X tg t) (w : ∀ v σ H Q, t' v σ H Q → t v σ H Q) : PG X tg t' := ⟨fun pins s σ H v u Q I r hq => h.run pins s σ H v u Q I r (w v σ H Q hq)⟩
theorem PGs.weak {X : Cx} {tg : List PySem.Expr} {t t' : TGs} (h : PGs X tg t) (w : ∀ v σ H Q, t' v σ H Q → t v σ H Q) : PGs X tg t' := ⟨fun pins s σ H v u Q I r hq => h.run pins s σ H v u Q I r (w v σ H Q hq)⟩
end L2
namespace Sx
open PySem PySem.Spec PyProof.Rows L2
def seqOf : Dt → Option (List Dt)
  | .list ds => some ds
  | .tuple ds => some ds
  | _ => none
def iSeq (e : SE) : SA := fun ρ W => (e ρ W).bind fun p => ofO (seqOf p.1) p.2
def rngD (n : Int) : List Dt := (List.range n.toNat).map fun (i : Nat) => PyData.int (i : Int)
def rngOf : List Dt → Option (List Dt)
  | [.int n] => if n ≤ 100000 ∧ -100000 ≤ n then some (rngD n) else none
  | _ => none
def iRng (a : SA) : SA := fun ρ W => (a ρ W).bind fun p => ofO (rngOf p.1) p.2
section
variable {K : PySem.W.Frag} {F : Hp} {a b : Addr} {xs ys : List V} {ds es : List Dt}
theorem wd_list (h : SqL K F a xs) (hd : DqAll K F xs ds) : WalkD Dq K F (Itl K a) ds := by
  unfold WalkD
  rw [← hd.length]
  refine Walk.mono (walk_list (xs := xs)) (fun H ⟨F2, s1, s2⟩ => (s1.trans s2).seq h) fun i H x H' hi ⟨F2, s1, s2⟩ ⟨e, hx⟩ F2' s1' s2' => ?_
  subst e
  obtain ⟨d, h1, h2⟩ := hd.get hx
  exact ⟨F2', d, h1, .refl s2', h2.mono s1'⟩
theorem wd_tup (h : SqT K F a xs) (hd : DqAll K F xs ds) : WalkD Dq K F (Itt K a) ds := by
  unfold WalkD
  rw [← hd.length]
  refine Walk.mono (walk_tup (xs := xs)) (fun H ⟨F2, s1, s2⟩ => sqT_mono (s1.trans s2) h) fun i H x H' hi ⟨F2, s1, s2⟩ ⟨e, hx⟩ F2' s1' s2' => ?_
  subst e
  obtain ⟨d, h1, h2⟩ := hd.get hx
  exact ⟨F2', d, h1, .refl s2', h2.mono s1'⟩
theorem wd_rng {n : Int} : WalkD Dq K F (Itr 0 n.toNat) (rngD n) := by
  unfold WalkD
  have e : (rngD n).length = n.toNat := by simp [rngD]
  rw [e]
  refine Walk.mono walk_range (fun H _ => trivial) fun i H x H' hi _ ⟨e, hx⟩ F2' s1' s2' => ?_
  subst e hx
  refine ⟨F2', .int i, by simp [rngD, hi], .refl s2', ?_⟩
  show Dq K F2' (V.int ((0 : Int) + (i : Int))) (.int (i : Int))
  rw [Int.zero_add]
  exact .int _
end
section
variable {X : Cx} {XE : Str → Hp → Prop} {tg e a b : Expr} {es : List Expr} {pos p tpos : Pos} {fa : SE} {ga : SA} {elts : List Expr} {kk : Nat}
/-- for x in (a list or a tuple) -/
theorem i_seq (he : PE X e (tE X.K XE fa)) : PI X tg e (tI Dq X.K XE (iSeq fa)) := by
  refine ⟨fun pins s σ H R I h => ?_⟩
  obtain ⟨G, ρ, W, F, Rl, p⟩ := h
  refine thn (he.run pins s σ H (fun x H1 => ∃ ds J, (∃ F1 W1, Same F F1 ∧ Rel X.K G ρ W1 σ F1 H1 ∧ ((J = Itl X.K (match x with | .ref a => a | _ => 0) ∧ ∃ a xs, x = .ref a ∧ SqL X.K F1 a xs ∧ DqAll X.K F1 xs ds) ∨ (J = Itt X.K (match x with | .ref a => a | _ => 0) ∧ ∃ a xs, x = .ref a ∧ SqT X.K F1 a xs ∧ DqAll X.K F1 xs ds)) ∧ (WalkD Dq X.K F1 J ds → R J H1))) I ⟨G, ρ, W, F, Rl, p.of_bind.mono fun d W1 q v F1 H1 s1 R1 hv => ?_⟩) fun v s1 ⟨x, H1, I1, r1, q1⟩ => ?_
  · obtain ⟨ds, hd, q2⟩ := q.of_ofO
    cases d <;> simp only [seqOf] at hd <;> try (cases hd; done)
    · cases hd
      cases hv with
      | lst h1 h2 => exact ⟨_, Itl X.K _, F1, W1, s1, R1, .inl ⟨rfl, _, _, rfl, h1, h2⟩, fun wk => q2 _ F1 H1 s1 R1 wk⟩
    · cases hd
      cases hv with
      | tup h1 h2 => exact ⟨_, Itt X.K _, F1, W1, s1, R1, .inr ⟨rfl, _, _, rfl, h1, h2⟩, fun wk => q2 _ F1 H1 s1 R1 wk⟩
  · obtain ⟨ds, J, F1, W1, sm, R1, hJ | hJ, q⟩ := q1
    · obtain ⟨eJ, a, xs, rfl, ha, da⟩ := hJ
      cases r1
      subst eJ
      obtain ⟨its, rv, p, hz⟩ := I1.list (R1.fh.seq ha)
      refine wpAny_pyIter_list p.isList ?_
      refine ⟨s1.heap.objs.size, [s1.heap.objs.size], _, _, H1, rfl, I1.kept (t' := s1.toks) fun b o e => Heap.get?_push_of_some _ e, turn_list a _, ⟨_, Heap.get?_push_size _ rfl, rfl, rfl⟩, fun b hb => ?_, q (wd_list ha da)⟩
      have e : b = s1.heap.objs.size := by simpa using hb
      subst e
      exact I1.fpOk (Nat.le_refl _) (I1.hok.fresh (Nat.le_refl _))
    · obtain ⟨eJ, a, xs, rfl, ha, da⟩ := hJ
      cases r1
      subst eJ
      obtain ⟨its, rv, p, hz⟩ := I1.tuple (sqT_mono R1.fh ha)
      refine wpAny_pyIter_tuple (show s1.heap.IsTuple a its.toArray from p) ?_
      refine ⟨s1.heap.objs.size, [s1.heap.objs.size], _, _, H1, rfl, I1.kept (t' := s1.toks) fun b o e => Heap.get?_push_of_some _ e, turn_tuple a _, ⟨_, Heap.get?_push_size _ rfl, rfl, rfl⟩, fun b hb => ?_, q (wd_tup ha da)⟩
      have e : b = s1.heap.objs.size := by simpa using hb
      subst e
      exact I1.fpOk (Nat.le_refl _) (I1.hok.fresh (Nat.le_refl _))
theorem i_rng (hg : Gl X "range") (hm : X.mg "range" = none) (ha : PA X [a] (tA X.K XE ga)) (hs : starEach [a] X.env = [(false, eval a X.env)] := by rfl) : PI X tg (.Call (.Name "range" p) [a] [] pos) (tI Dq X.K XE (iRng ga)) := by
  refine (pi_range1 hg hm ha hs).weak fun σ H R ⟨G, ρ, W, F, Rl, p⟩ => ⟨G, ρ, W, F, Rl, p.of_bind.mono fun ds W1 q vs F1 H1 s1 R1 hv => ?_⟩
  obtain ⟨zs, hz, q2⟩ := q.of_ofO
  rcases ds with _ | ⟨d, _ | ⟨d2, ds⟩⟩
  · cases hz
  · cases d <;> simp only [rngOf] at hz <;> try (cases hz; done)
    split at hz
    · cases hz
      rename_i n hn
      cases hv with
      | cons h1 h2 =>
        cases h2
        cases h1
        exact ⟨n, rfl, by omega, by omega, q2 _ F1 H1 s1 R1 wd_rng⟩
    · cases hz
  · cases d <;> cases hz
end

/-! ### targets -/
abbrev SG := Dt → Sl → Option Sl
def gN (i : Nat) : SG := fun d ρ => if i < ρ.length then some (ρ.set i (some (.d d))) else none
abbrev SGs := List Dt → Sl → Option Sl
def gsNil : SGs := fun ds ρ => match ds with
  | [] => some ρ
  | _ => none
def gsCons (g : SG) (gs : SGs) : SGs := fun ds ρ => match ds with
  | d :: ds => (g d ρ).bind (gs ds)
  | [] => none
def gTu (n : Nat) (gs : SGs) : SG := fun d ρ => match d with
  | .tuple ds => if ds.length = n then gs ds ρ else none
  | _ => none
def tG (D : Rl) (K : PySem.W.Frag) (is : List Nat) (g : SG) : TG := fun v σ H Q => ∃ G ρ W F d ρ', Rel K G ρ W σ F H ∧ D K F v d ∧ g d ρ = some ρ' ∧
  ((∀ j, j ∉ is → ρ'[j]? = ρ[j]?) → ∀ σ', σ'.length = σ.length → (∀ j, j ∉ is → σ'[j]? = σ[j]?) → Rel K G ρ' W σ' F H → Q σ' H)
def tGs (K : PySem.W.Frag) (is : List Nat) (g : SGs) : TGs := fun vs σ H Q => ∃ G ρ W F ds ρ', Rel K G ρ W σ F H ∧ DqAll K F vs ds ∧ g ds ρ = some ρ' ∧
  ((∀ j, j ∉ is → ρ'[j]? = ρ[j]?) → ∀ σ', σ'.length = σ.length → (∀ j, j ∉ is → σ'[j]? = σ[j]?) → Rel K G ρ' W σ' F H → Q σ' H)
theorem Rel.setD {K : PySem.W.Frag} {G : Gh} {ρ : Sl} {W : Tw} {σ : L2.St} {F H : Hp} {i : Nat} {v : V} {d : Dt} (R : Rel K G ρ W σ F H) (hi : i < ρ.length) (hv : Dq K F v d) : Rel K G (ρ.set i (some (.d d))) W (σ.set i (some v)) F H := by
  refine ⟨R.gr, by rw [List.length_set, List.length_set]; exact R.len, R.t0, R.t1, R.tw, fun j sv e => ?_, R.dj, R.fr, R.ex, R.xt, R.tb, R.kk⟩
  by_cases hj : i = j
  · subst hj
    rw [List.getElem?_set_self hi] at e
    cases e
    exact ⟨v, List.getElem?_set_self (by rw [← R.len]; exact hi), hv⟩
  · rw [List.getElem?_set_ne hj] at e ⊢
    exact R.sl j sv e
section
variable {X : Cx} {pos : Pos}
theorem g_name {i : Nat} {x : Str} (h : PG X (.Name x pos) (gName i)) : PG X (.Name x pos) (tG Dq X.K [i] (gN i)) := by
  refine h.weak fun v σ H Q ⟨G, ρ, W, F, d, ρ', R, hv, hg, q⟩ => ?_
  unfold gN at hg
  split at hg
  · cases hg
    rename_i hi
    exact q (fun j hj => by rw [List.getElem?_set_ne (by simp at hj; exact Ne.symm hj)]) (σ.set i (some v)) (by simp) (fun j hj => by rw [List.getElem?_set_ne (by simp at hj; exact Ne.symm hj)]) (R.setD hi hv)
  · cases hg
theorem gs_nil : PGs X [] (tGs X.K [] gsNil) := by
  refine pgs_nil.weak fun vs σ H Q ⟨G, ρ, W, F, ds, ρ', R, hv, hg, q⟩ => ?_
  cases hv with
  | nil =>
    cases hg
    exact ⟨rfl, q (fun _ _ => rfl) σ rfl (fun _ _ => rfl) R⟩
  | cons _ _ => cases hg
theorem gs_cons {e : Expr} {es : List Expr} {is js : List Nat} {g : SG} {gs : SGs} (h1 : PG X e (tG Dq X.K is g)) (h2 : PGs X es (tGs X.K js gs))
    (hs : (assignEach (e :: es) X.env).map (·.2) = assign e X.env :: (assignEach es X.env).map (·.2) := by rfl) : PGs X (e :: es) (tGs X.K (is ++ js) (gsCons g gs)) := by
  refine (pgs_cons h1 h2 hs).weak fun vs σ H Q ⟨G, ρ, W, F, ds, ρ', R, hv, hg, q⟩ => ?_
  cases hv with
  | nil => cases hg
  | @cons v vs d ds hv1 hv2 =>
    have hg : (g d ρ).bind (gs ds) = some ρ' := hg
    cases hg1 : g d ρ with
    | none => rw [hg1] at hg; cases hg
    | some ρ1 =>
      rw [hg1] at hg
      refine ⟨v, vs, rfl, G, ρ, W, F, d, ρ1, R, hv1, hg1, fun hk1 σ1 l1 e1 R1 => ⟨G, ρ1, W, F, ds, ρ', R1, hv2, hg, fun hk2 σ2 l2 e2 R2 => ?_⟩⟩
      refine q (fun j hj => ?_) σ2 (l2.trans l1) (fun j hj => ?_) R2
      · rw [List.mem_append, not_or] at hj
        exact (hk2 j hj.2).trans (hk1 j hj.1)
      · rw [List.mem_append, not_or] at hj
        exact (e2 j hj.2).trans (e1 j hj.1)
theorem g_tup {D : Rl} [hD : Opn D] {es : List Expr} {k : Nat} {is : List Nat} {gs : SGs} {n : Nat} (hc : X.calm = true) (h : PGs X es (tGs X.K is gs))
    (hn : (assignEach es X.env).length = n := by rfl) (hst : (assignEach es X.env).findIdx? (·.1) = none := by rfl) : PG X (.Tuple es k pos) (tG D X.K is (gTu n gs)) := by
  refine (pg_tup hc h hn hst).weak fun v σ H Q ⟨G, ρ, W, F, d, ρ', R, hv, hg, q⟩ => ?_
  cases d <;> simp only [gTu] at hg <;> try (cases hg; done)
  split at hg
  · rename_i hl
    obtain ⟨a, xs, rfl, h1, h2⟩ := hD.op hv
    exact ⟨_, _, rfl, sqT_mono R.fh h1, by rw [h2.length]; exact hl, G, ρ, W, F, _, ρ', R, h2, hg, q⟩
  · cases hg
end
end Sx

namespace Sx
open PySem PySem.Spec PyProof.Rows L2

/-! ### slots forgotten, things held aside -/
def wipeS (ρ : Sl) : List Nat → Sl
  | [] => ρ
  | v :: vs => (wipeS ρ vs).set v none
def wipeOk (ρ : Sl) (vs : List Nat) : Bool := vs.all fun j => match ρ[j]? with
  | some (some (.d _)) => true
  | some (some _) => false
  | _ => true
theorem wipeS_length (ρ : Sl) : ∀ vs : List Nat, (wipeS ρ vs).length = ρ.length
  | [] => rfl
  | v :: vs => by unfold wipeS; rw [List.length_set, wipeS_length ρ vs]
theorem wipeS_some {ρ : Sl} {i : Nat} {x : SV} : ∀ {vs : List Nat}, (wipeS ρ vs)[i]? = some (some x) → ρ[i]? = some (some x) ∧ i ∉ vs
  | [], h => ⟨h, by simp⟩
  | v :: vs, h => by
    unfold wipeS at h
    by_cases hi : v = i
    · subst hi
      by_cases hv : v < (wipeS ρ vs).length
      · rw [List.getElem?_set_self hv] at h; cases h
      · rw [List.getElem?_eq_none (by simpa using hv)] at h; cases h
    · rw [List.getElem?_set_ne hi] at h
      obtain ⟨h1, h2⟩ := wipeS_some h
      exact ⟨h1, by simp only [List.mem_cons, not_or]; exact ⟨fun e => hi e.symm, h2⟩⟩
theorem wipeS_out {ρ : Sl} {i : Nat} : ∀ {vs : List Nat}, i ∉ vs → (wipeS ρ vs)[i]? = ρ[i]?
  | [], _ => rfl
  | v :: vs, h => by
    simp only [List.mem_cons, not_or] at h
    unfold wipeS
    rw [List.getElem?_set_ne (Ne.symm h.1), wipeS_out h.2]
theorem wipe_in {σ : L2.St} {i : Nat} : ∀ {vs : List Nat}, i ∈ vs → (wipe σ vs)[i]? = if i < σ.length then some none else none
  | [], h => by simp at h
  | v :: vs, h => by
    unfold wipe
    by_cases hi : v = i
    · subst hi
      by_cases hv : v < σ.length
      · rw [List.getElem?_set_self (by rw [wipe_length]; exact hv), if_pos hv]
      · rw [List.getElem?_eq_none (by rw [List.length_set, wipe_length]; omega), if_neg hv]
    · rw [List.getElem?_set_ne hi]
      exact wipe_in (by rcases List.mem_cons.mp h with z | z; exact absurd z.symm hi; exact z)
theorem wipe_eq {σ σ2 : L2.St} {is vs : List Nat} (hl : σ2.length = (wipe σ vs).length) (h : ∀ j, j ∉ is → σ2[j]? = (wipe σ vs)[j]?) (hs : ∀ j ∈ is, j ∈ vs) : wipe σ2 vs = wipe σ vs := by
  rw [wipe_length] at hl
  refine List.ext_getElem? fun j => ?_
  by_cases hj : j ∈ vs
  · rw [wipe_in hj, wipe_in hj, hl]
  · rw [wipe_out hj, h j fun z => hj (hs j z)]
section
variable {K : PySem.W.Frag} {G : Gh} {ρ ρ' : Sl} {W W' : Tw} {σ σ' : L2.St} {F H F' H' : Hp} {p : Addr} {o o' : HO} {E : List (Addr × HO)}
theorem Rel.wiped (R : Rel K G ρ W σ F H) (vs : List Nat) : Rel K G (wipeS ρ vs) W (wipe σ vs) F H :=
  ⟨R.gr, by rw [wipeS_length, wipe_length]; exact R.len, R.t0, R.t1, R.tw, fun i sv e => by
    obtain ⟨h1, h2⟩ := wipeS_some e
    obtain ⟨v, h3, h4⟩ := R.sl i sv h1
    exact ⟨v, by rw [wipe_out h2]; exact h3, h4⟩, R.dj, R.fr, R.ex, R.xt, R.tb, R.kk⟩
theorem Rel.unwiped {vs : List Nat} (R : Rel K G ρ W σ F H) (R' : Rel K G (wipeS ρ vs) W' (wipe σ vs) F' H') (s : Same F F') (ok : wipeOk ρ vs = true) : Rel K G ρ W' σ F' H' :=
  ⟨R'.gr, R.len, R'.t0, R'.t1, R'.tw, fun i sv e => by
    by_cases hi : i ∈ vs
    · obtain ⟨v, h1, h2⟩ := R.sl i sv e
      have hk := List.all_eq_true.mp ok i hi
      rw [e] at hk
      cases sv <;> simp at hk
      exact ⟨v, h1, Dq.mono h2 s⟩
    · obtain ⟨v, h1, h2⟩ := R'.sl i sv (by rw [wipeS_out hi]; exact e)
      exact ⟨v, by rw [wipe_out hi] at h1; exact h1, h2⟩, R'.dj, R'.fr, R'.ex, R.xt, R'.tb, R.kk⟩
theorem Rel.restrict (R : Rel K G ρ' W σ' F H) (hl : ρ.length = σ.length) (h : ∀ (i : Nat) (sv : SV), ρ[i]? = some (some sv) → ρ'[i]? = some (some sv) ∧ σ'[i]? = σ[i]?) : Rel K G ρ W σ F H :=
  ⟨R.gr, hl, R.t0, R.t1, R.tw, fun i sv e => by
    obtain ⟨h1, h2⟩ := h i sv e
    obtain ⟨v, h3, h4⟩ := R.sl i sv h1
    exact ⟨v, by rw [← h2]; exact h3, h4⟩, R.dj, R.fr, R.ex, R.xt, R.tb, R.kk⟩
/-- a thing that none of the state's has is held aside -/
theorem Rel.aside (R : Rel K G ρ W σ F H) (hp : H p = some o) (hF : F p = none) (fr : Fresh G p) (nt : NT o := by first | exact nt_lst | exact nt_dK) : Rel K { G with ext := (p, o) :: G.ext } ρ W σ F H :=
  ⟨R.gr, R.len, R.t0, R.t1, R.tw, R.sl, R.dj, R.fr, fun e he => by
    rcases List.mem_cons.mp he with z | z
    · subst z
      exact ⟨hp, hF, fr.2.2.1, fr.2.1⟩
    · exact R.ex e z, fun e he => by
    rcases List.mem_cons.mp he with z | z
    · subst z; exact nt
    · exact R.xt e z, R.tb, R.kk⟩
theorem Rel.dropExt {e : Addr × HO} (R : Rel K { G with ext := e :: E } ρ W σ F H) : Rel K { G with ext := E } ρ W σ F H :=
  ⟨R.gr, R.len, R.t0, R.t1, R.tw, R.sl, R.dj, R.fr, fun e he => R.ex e (List.mem_cons_of_mem _ he), fun e he => R.xt e (List.mem_cons_of_mem _ he), R.tb, R.kk⟩
theorem Rel.setExt (R : Rel K { G with ext := (p, o) :: E } ρ W σ F H) (hn : ∀ e ∈ E, e.1 ≠ p) (h0 : G.H0 p = none) (nt : NT o := by exact nt_lst) (nt' : NT o' := by exact nt_lst) : Rel K { G with ext := (p, o') :: E } ρ W σ F (upd H p o') := by
  obtain ⟨e1, e2, e3, e4⟩ := R.ex (p, o) (List.mem_cons_self ..)
  simp only at e1 e2 e3 e4
  refine ⟨⟨R.gr.ff, same_mut R.fh e2, R.gr.nw, fun a u e n m => ?_, fun a e => ?_, fun t => (R.gr.tb t).mut e1 nt⟩, R.len, R.t0, R.t1, ?_, fun i sv e => ?_, R.dj, fun i a ha => ?_, fun e he => ?_, fun e he => ?_, R.tb.mut e1 nt, R.kk⟩
  · have : a ≠ p := fun z => by rw [z, h0] at e; cases e
    rw [upd_ne this]; exact R.gr.kp a u e n m
  · by_cases ha : a = p
    · subst ha; rw [upd_same]; exact fun z => nomatch z
    · rw [upd_ne ha]; exact R.gr.th a e
  · have t := R.tw
    revert t
    show TwOk K F H G.T W → TwOk K F (upd H p o') G.T W
    cases hT : G.T <;> cases W <;> intro t
    · trivial
    · exact t
    · exact t
    · obtain ⟨tv, h1, h2, h3⟩ := t
      exact ⟨tv, by rw [upd_ne (fun z => e3 (by rw [← z]; exact hT))]; exact h1, h2, h3⟩
  · obtain ⟨v, h1, h2⟩ := R.sl i sv e
    exact ⟨v, h1, h2.keep (.refl _) fun a u ho _ ha => by rw [upd_ne fun z => e4 i (by rw [← z]; exact ha)]; exact ho⟩
  · obtain ⟨h1, h2, h3, h4⟩ := R.fr i a ha
    exact ⟨h1, by rw [upd_ne fun z => e4 i (by rw [← z]; exact ha)]; exact h2, h3, h4⟩
  · rcases List.mem_cons.mp he with z | z
    · subst z
      exact ⟨upd_same, e2, e3, e4⟩
    · obtain ⟨h1, h2, h3, h4⟩ := R.ex e (List.mem_cons_of_mem _ z)
      exact ⟨by rw [upd_ne (hn e z)]; exact h1, h2, h3, h4⟩
  · rcases List.mem_cons.mp he with z | z
    · subst z; exact nt'
    · exact R.xt e (List.mem_cons_of_mem _ z)
end

/-! ### comprehensions -/
def nox {α : Type} : Res α → Res α
  | .ok a => .ok a
  | _ => .bad
@[simp] theorem nox_ok {α : Type} (a : α) : nox (.ok a) = .ok a := rfl
def cL (g : SG) (c : SB) (e : SE) (ρ0 : Sl) : List Dt → Tw → Res (List Dt × Tw)
  | [], W => .ok ([], W)
  | d :: ds, W => match g d ρ0 with
    | none => .bad
    | some ρ1 => (nox (c ρ1 W)).bind fun p => if p.1 = true then (nox (e ρ1 p.2)).bind fun q => (cL g c e ρ0 ds q.2).bind fun r => .ok (q.1 :: r.1, r.2) else cL g c e ρ0 ds p.2
def lComp (it : SA) (g : SG) (c : SB) (e : SE) (vs : List Nat) : SA := fun ρ W => (it ρ W).bind fun p => if p.1.length ≤ 100000 ∧ wipeOk ρ vs = true then cL g c e (wipeS ρ vs) p.1 p.2 else .bad
def bYes : SB := fun _ W => .ok (true, W)
abbrev X0 : Str → Hp → Prop := fun _ _ => False
theorem cL_cases {g : SG} {c : SB} {e : SE} {ρ0 : Sl} {d : Dt} {ds : List Dt} {W : Tw} {zs : List Dt} {Wf : Tw} (h : cL g c e ρ0 (d :: ds) W = .ok (zs, Wf)) :
    ∃ ρ1 b W1, g d ρ0 = some ρ1 ∧ c ρ1 W = .ok (b, W1) ∧ ((b = false ∧ cL g c e ρ0 ds W1 = .ok (zs, Wf)) ∨ (b = true ∧ ∃ z W2 r, e ρ1 W1 = .ok (z, W2) ∧ cL g c e ρ0 ds W2 = .ok (r, Wf) ∧ zs = z :: r)) := by
  unfold cL at h
  cases hg : g d ρ0 with
  | none => rw [hg] at h; cases h
  | some ρ1 =>
    simp only [hg] at h
    cases hc : c ρ1 W with
    | exc x => rw [hc] at h; cases h
    | bad => rw [hc] at h; cases h
    | ok p =>
      obtain ⟨b, W1⟩ := p
      rw [hc] at h
      simp only [nox_ok, Res.bind_ok] at h
      refine ⟨ρ1, b, W1, rfl, hc, ?_⟩
      cases b with
      | false => exact .inl ⟨rfl, by simpa using h⟩
      | true =>
        simp only [if_true] at h
        cases he : e ρ1 W1 with
        | exc x => rw [he] at h; cases h
        | bad => rw [he] at h; cases h
        | ok q =>
          obtain ⟨z, W2⟩ := q
          rw [he] at h
          simp only [nox_ok, Res.bind_ok] at h
          cases hr : cL g c e ρ0 ds W2 with
          | exc x => rw [hr] at h; cases h
          | bad => rw [hr] at h; cases h
          | ok r =>
            rw [hr] at h
            simp only [Res.bind_ok, Res.ok.injEq, Prod.mk.injEq] at h
            obtain ⟨h1, h2⟩ := h
            exact .inr ⟨rfl, z, W2, r.1, rfl, by rw [hr, ← h2], h1.symm⟩
theorem cL_noexc {g : SG} {c : SB} {e : SE} {ρ0 : Sl} : ∀ {ds : List Dt} {W : Tw} {x : Str}, cL g c e ρ0 ds W ≠ .exc x
  | [], W, x, h => by cases h
  | d :: ds, W, x, h => by
    unfold cL at h
    cases hg : g d ρ0 with
    | none => rw [hg] at h; cases h
    | some ρ1 =>
      simp only [hg] at h
      cases hc : c ρ1 W with
      | exc x => rw [hc] at h; cases h
      | bad => rw [hc] at h; cases h
      | ok p =>
        obtain ⟨b, W1⟩ := p
        rw [hc] at h
        simp only [nox_ok, Res.bind_ok] at h
        cases b with
        | false => exact cL_noexc (by simpa using h)
        | true =>
          simp only [if_true] at h
          cases he : e ρ1 W1 with
          | exc x => rw [he] at h; cases h
          | bad => rw [he] at h; cases h
          | ok q =>
            obtain ⟨z, W2⟩ := q
            rw [he] at h
            simp only [nox_ok, Res.bind_ok] at h
            cases hr : cL g c e ρ0 ds W2 with
            | exc x => exact cL_noexc hr
            | bad => rw [hr] at h; cases h
            | ok r => rw [hr] at h; cases h
section
variable {X : Cx} {XE : Str → Hp → Prop} {it : SA} {g : SG} {c : SB} {e : SE} {is vs : List Nat}
theorem comp_of {D0 : Rl} (hsub : ∀ j ∈ is, j ∈ vs) {σ : L2.St} {H : Hp} {Q : VK} (h : tL X.K XE (lComp it g c e vs) σ H Q) : tLc (tI D0 X.K XE it) (tG D0 X.K is g) (tT X.K X0 c) (tE X.K X0 e) vs σ H Q := by
  obtain ⟨G, ρ, W, F, R, p⟩ := h
  refine ⟨G, ρ, W, F, R, p.of_bind.mono fun ds W1 q J F1 H1 s1 R1 wk D hD => ?_⟩
  obtain ⟨⟨hlen, hok⟩, q⟩ := Pg.of_ite q
  simp only at hlen
  have hcl : ∃ zs Wf, cL g c e (wipeS ρ vs) ds W1 = .ok (zs, Wf) := by
    cases hz : cL g c e (wipeS ρ vs) ds W1 with
    | ok r => exact ⟨r.1, r.2, rfl⟩
    | exc x => exact absurd hz cL_noexc
    | bad => simp only [hz] at q; exact q.elim
  obtain ⟨zs, Wf, hcl⟩ := hcl
  simp only [hcl] at q
  have fr := R1.fresh hD
  have RD : Rel X.K { G with ext := (D, .lst []) :: G.ext } (wipeS ρ vs) W1 (wipe σ vs) F1 (upd H1 D (.lst [])) :=
    ((R1.grow (Gr.newH R1.fh hD)).aside upd_same (R1.fh.free hD) fr).wiped vs
  refine lc_it wk (fun i H2 => ∃ Wi Fi av acc rest, Rel X.K { G with ext := (D, .lst av) :: G.ext } (wipeS ρ vs) Wi (wipe σ vs) Fi H2 ∧ Same F1 Fi ∧ DqAll X.K Fi av acc ∧ cL g c e (wipeS ρ vs) (ds.drop i) Wi = .ok (rest, Wf) ∧ zs = acc ++ rest ∧ acc.length ≤ i)
    ⟨W1, F1, [], [], zs, RD, .refl _, .nil, by rw [List.drop_zero]; exact hcl, rfl, Nat.le_refl _⟩ (fun i H2 _ ⟨Wi, Fi, _, _, _, Ri, si, _⟩ => ⟨Fi, si, Ri.fh⟩) ?_ ?_
  · rintro i x H2 H3 hi ⟨Wi, Fi, av, acc, rest, Ri, si, da, hc, hzs, hal⟩ hy
    obtain ⟨F3, d, hd, gr, hx⟩ := hy Fi si Ri.fh
    have hdrop : ds.drop i = d :: ds.drop (i + 1) := by
      obtain ⟨h1, h2⟩ := List.getElem?_eq_some_iff.mp hd
      rw [List.drop_eq_getElem_cons h1, h2]
    rw [hdrop] at hc
    obtain ⟨ρ1, b, W2, hg, hb, hrest⟩ := cL_cases hc
    have R3 := Ri.grow gr
    refine ⟨_, wipeS ρ vs, Wi, F3, d, ρ1, R3, hx, hg, fun hk σ2 hl hj R4 => ⟨wipe_eq hl hj hsub, _, ρ1, Wi, F3, R4, ?_⟩⟩
    have back : ∀ {W5 : Tw} {F5 H5 : Hp} {av' : List V}, Rel X.K { G with ext := (D, .lst av') :: G.ext } ρ1 W5 σ2 F5 H5 → Rel X.K { G with ext := (D, .lst av') :: G.ext } (wipeS ρ vs) W5 (wipe σ vs) F5 H5 := fun R5 =>
      R5.restrict (by rw [wipeS_length, wipe_length]; exact R.len) fun j sv ej => by
        obtain ⟨_, hjv⟩ := wipeS_some ej
        exact ⟨by rw [hk j fun z => hjv (hsub j z)]; exact ej, hj j fun z => hjv (hsub j z)⟩
    rw [hb]
    intro F4 H4 s4 R5
    rcases hrest with ⟨rfl, hr⟩ | ⟨rfl, z, W3, r, he, hr, hz⟩
    · simp only [Bool.false_eq_true, if_false]
      exact ⟨W2, F4, av, acc, rest, back R5, (si.trans gr.ff).trans s4, da.mono (gr.ff.trans s4), hr, hzs, by omega⟩
    · simp only [if_true]
      refine ⟨_, ρ1, W2, F4, R5, ?_⟩
      rw [he]
      intro v F5 H5 s5 R6 hv
      obtain ⟨x1, x2, x3, x4⟩ := R6.ex (D, .lst av) (List.mem_cons_self ..)
      have sF : Same Fi F5 := (gr.ff.trans s4).trans s5
      have hle : acc.length < 100000 := by omega
      refine ⟨av, x1, Nat.lt_of_lt_of_le (by rw [da.length]; exact hle) (sz5 (Nat.le_refl _)), W3, F5, av ++ [v], acc ++ [z], r, back (R6.setExt fr.2.2.2 fr.1), si.trans sF, (da.mono sF).append (.one hv), hr, ?_, ?_⟩
      · rw [hzs, hz, List.append_assoc]; rfl
      · rw [List.length_append, List.length_singleton]; omega
  · rintro H2 ⟨Wi, Fi, av, acc, rest, Ri, si, da, hc, hzs, hal⟩
    rw [List.drop_length] at hc
    have hc : Res.ok (([] : List Dt), Wi) = .ok (rest, Wf) := hc
    cases hc
    rw [List.append_nil] at hzs
    subst hzs
    obtain ⟨x1, x2, x3, x4⟩ := Ri.ex (D, .lst av) (List.mem_cons_self ..)
    exact q D av Fi H2 (s1.trans si) (R1.unwiped Ri.dropExt si hok) fr x1 x2 da
variable {elt tg iter : Expr} {ifs : List Expr} {scope : Scope} {own : List (Str × Nat)} {pos : Pos}
theorem l_comp {D0 : Rl} (hc : X.calm = true) (hN : X.N.Nodup) (hi : PI X tg iter (tI D0 X.K XE it)) (ok : BlkOk X.N X.env.scope scope own)
    (hg : ∀ (s : Shared) (H : Hp) (C : Addr) (cl : List (Str × Addr)) (fp : List Addr), PG (X.blk s H scope (compEnvC scope cl C X.env) fp) tg (tG D0 X.K is g)) (ht : ∀ (s : Shared) (H : Hp) (C : Addr) (cl : List (Str × Addr)) (fp : List Addr), PTs (X.blk s H scope (compEnvC scope cl C X.env) fp) ifs (tT X.K X0 c))
    (he : ∀ (s : Shared) (H : Hp) (C : Addr) (cl : List (Str × Addr)) (fp : List Addr), PE (X.blk s H scope (compEnvC scope cl C X.env) fp) elt (tE X.K X0 e)) (hsub : ∀ j ∈ is, j ∈ own.map (·.2)) (hs : ∀ x, foldedSetIterable iter X.env x = pure x := by intro _; rfl) :
    PE X (.ListComp elt [⟨tg, iter, ifs, 0⟩] scope pos) (tL X.K XE (lComp it g c e (own.map (·.2)))) := (pe_lc hc hN hi ok hg ht he hs).weak fun _ _ _ => comp_of hsub
theorem t_yes : PTs X [] (tT X.K XE bYes) := ⟨fun pins s σ H Q I ⟨G, ρ, W, F, R, p⟩ => pts_nil.run pins s σ H Q I (p F H (.refl _) R)⟩
theorem t_one {b : Expr} (h : PT X b (tT X.K XE c)) : PTs X [b] (tT X.K XE c) := pts_one h
end
end Sx

namespace Sx
open PySem PySem.Spec PyProof.Rows L2

/-! ### statements -/
inductive Out where
  | nx (ρ : Sl) (W : Tw) | rt (r : SV) (W : Tw) | exc (c : Str) | bad
abbrev SS := Sl → Tw → Out
structure SameB (G G' : Gh) : Prop where
  T0 : G'.T0 = G.T0
  F0 : G'.F0 = G.F0
  H0 : G'.H0 = G.H0
  ext : G'.ext = G.ext
  K : G'.K = G.K
theorem SameB.refl (G : Gh) : SameB G G := ⟨rfl, rfl, rfl, rfl, rfl⟩
theorem SameB.trans {A B C : Gh} (a : SameB A B) (b : SameB B C) : SameB A C := ⟨b.T0.trans a.T0, b.F0.trans a.F0, b.H0.trans a.H0, b.ext.trans a.ext, b.K.trans a.K⟩
def RV (K : PySem.W.Frag) (G : Gh) (F H : Hp) (v : V) : SV → Prop
  | .d x => Dq K F v x
  | .own xs => ∃ p vs, v = .ref p ∧ G.H0 p = none ∧ H p = some (.lst vs) ∧ F p = none ∧ DqAll K F vs xs
  | _ => False
def Po (K : PySem.W.Frag) (XE : Str → Hp → Prop) (G : Gh) (F : Hp) (r : Out) (D : Ends) : Prop := match r with
  | .nx ρ' W' => ∀ G' σ' F' H', SameB G G' → Same F F' → Rel K G' ρ' W' σ' F' H' → D.nx σ' H'
  | .rt r W' => ∀ G' ρ' σ' v F' H', SameB G G' → Same F F' → Rel K G' ρ' W' σ' F' H' → RV K G' F' H' v r → D.rt v H'
  | .exc c => ∀ F' H', Gr G.K G.tm G.F0 G.H0 F' H' → XE c H'
  | .bad => False
def tS (K : PySem.W.Frag) (XE : Str → Hp → Prop) (f : SS) : TS := fun D σ H => ∃ G ρ W F, Rel K G ρ W σ F H ∧ Po K XE G F (f ρ W) D
theorem Po.shift {K : PySem.W.Frag} {XE : Str → Hp → Prop} {G G' : Gh} {F F' : Hp} {r : Out} {D : Ends} (h : Po K XE G F r D) (b : SameB G G') (s : Same F F') : Po K XE G' F' r D := by
  cases r with
  | nx ρ W => exact fun G2 σ2 F2 H2 b2 s2 R2 => h G2 σ2 F2 H2 (b.trans b2) (s.trans s2) R2
  | rt r W => exact fun G2 ρ2 σ2 v F2 H2 b2 s2 R2 => h G2 ρ2 σ2 v F2 H2 (b.trans b2) (s.trans s2) R2
  | exc c => exact fun F2 H2 g => h F2 H2 (by
      unfold Gh.tm at g ⊢
      rw [b.T0, b.F0, b.H0, b.K] at g
      exact g)
  | bad => exact h
def rOut {α : Type} (r : Res (α × Tw)) (k : α → Tw → Out) : Out := match r with
  | .ok p => k p.1 p.2
  | .exc c => .exc c
  | .bad => .bad
@[simp] theorem rOut_ok {α : Type} (p : α × Tw) (k : α → Tw → Out) : rOut (.ok p) k = k p.1 p.2 := rfl
theorem Po.of_rOut {α : Type} {K : PySem.W.Frag} {XE : Str → Hp → Prop} {G : Gh} {F : Hp} {r : Res (α × Tw)} {k : α → Tw → Out} {D : Ends} (h : Po K XE G F (rOut r k) D) : Pg XE G r fun a W' => Po K XE G F (k a W') D := by
  cases r with
  | ok p => exact h
  | exc c => exact h
  | bad => exact h
theorem Po.of_ite {K : PySem.W.Frag} {XE : Str → Hp → Prop} {G : Gh} {F : Hp} {c : Prop} [Decidable c] {r : Out} {D : Ends} (h : Po K XE G F (if c then r else .bad) D) : c ∧ Po K XE G F r D := by
  by_cases hc : c
  · rw [if_pos hc] at h; exact ⟨hc, h⟩
  · rw [if_neg hc] at h; exact h.elim
def sPass : SS := fun ρ W => .nx ρ W
def sSeq (a b : SS) : SS := fun ρ W => match a ρ W with
  | .nx ρ1 W1 => b ρ1 W1
  | r => r
def sNever : SS := fun _ _ => .bad
def sExpr (e : SE) : SS := fun ρ W => rOut (e ρ W) fun _ W1 => .nx ρ W1
def sRet (e : SE) : SS := fun ρ W => rOut (e ρ W) fun d W1 => .rt (.d d) W1
def sRetL (f : SA) : SS := fun ρ W => rOut (f ρ W) fun ds W1 => .rt (.own ds) W1
def sRetO (i : Nat) : SS := fun ρ W => match ρ[i]? with
  | some (some (.own xs)) => .rt (.own xs) W
  | _ => .bad
def sAsg (i : Nat) (e : SE) : SS := fun ρ W => rOut (e ρ W) fun d W1 => if i < ρ.length then .nx (ρ.set i (some (.d d))) W1 else .bad
def sAsgG (g : SG) (e : SE) : SS := fun ρ W => rOut (e ρ W) fun d W1 => match g d ρ with
  | some ρ' => .nx ρ' W1
  | none => .bad
def sOwn (i : Nat) (f : SA) : SS := fun ρ W => rOut (f ρ W) fun ds W1 => if i < ρ.length then .nx (ρ.set i (some (.own ds))) W1 else .bad
def sTown (i : Nat) (f : SA) : SS := fun ρ W => rOut (f ρ W) fun ds W1 => if i < ρ.length ∧ W1 = none then .nx (ρ.set i (some .town)) (some ds) else .bad
def sIf (c : SB) (a b : SS) : SS := fun ρ W => rOut (c ρ W) fun k W1 => if k = true then a ρ W1 else b ρ W1
def fL (g : SG) (body : SS) : List Dt → Sl → Tw → Out
  | [], ρ, W => .nx ρ W
  | d :: ds, ρ, W => match g d ρ with
    | none => .bad
    | some ρ1 => match body ρ1 W with
      | .nx ρ2 W2 => fL g body ds ρ2 W2
      | r => r
def sFor (it : SA) (g : SG) (body : SS) : SS := fun ρ W => rOut (it ρ W) fun ds W1 => fL g body ds ρ W1
def sApp (i : Nat) (e : SE) : SS := fun ρ W => match ρ[i]? with
  | some (some (.own xs)) => rOut (e ρ W) fun d W1 => if xs.length < 100000 then .nx (ρ.set i (some (.own (xs ++ [d])))) W1 else .bad
  | _ => .bad
def setD (xs : List Dt) (k d : Dt) : Option (List Dt) := match k with
  | .int k => (ixN xs.length k).map fun j => xs.set j d
  | _ => none
def nxO (i : Nat) (o : Option (List Dt)) (ρ : Sl) (W : Tw) : Out := match o with
  | some ys => .nx (ρ.set i (some (.own ys))) W
  | none => .bad
def nxT (o : Option (List Dt)) (ρ : Sl) : Out := match o with
  | some ys => .nx ρ (some ys)
  | none => .bad
def sSetT (i : Nat) (k e : SE) : SS := fun ρ W => match ρ[i]? with
  | some (some .town) => rOut (e ρ W) fun d W1 => rOut (k ρ W1) fun kd W2 => match W2 with
    | some ws => nxT (setD ws kd d) ρ
    | none => .bad
  | _ => .bad
def eIxT (i : Nat) (k : SE) : SE := fun ρ W => match ρ[i]? with
  | some (some .town) => (k ρ W).bind fun p => match p.2 with
    | some ws => ofO (ixD (.list ws) p.1) p.2
    | none => .bad
  | _ => .bad
def frzS (i : Nat) (ρ : Sl) : Sl := match ρ[i]? with
  | some (some (.own xs)) => ρ.set i (some (.d (.list xs)))
  | _ => ρ
section
variable {K : PySem.W.Frag} {G : Gh} {ρ : Sl} {W : Tw} {σ : L2.St} {F H : Hp}
def Gh.own (G : Gh) (i : Nat) (p : Addr) : Gh := { G with fp := fun j => if j = i then [p] else G.fp j }
theorem Gh.own_same (G : Gh) (i : Nat) (p : Addr) : SameB G (G.own i p) := ⟨rfl, rfl, rfl, rfl, rfl⟩
/-- a new thing becomes slot i's own -/
theorem Rel.takeSv {i : Nat} {p : Addr} {o : HO} {sv : SV} (R : Rel K G ρ W σ F H) (hi : i < ρ.length) (fr : Fresh G p) (hp : H p = some o) (hF : F p = none) (hsv : SlOk K G.T F H (.ref p) [p] sv) :
    Rel K (G.own i p) (ρ.set i (some sv)) W (σ.set i (some (.ref p))) F H := by
  obtain ⟨f1, f2, f3, f4⟩ := fr
  have hne : ∀ j a, a ∈ (G.own i p).fp j → (j = i ∧ a = p) ∨ (j ≠ i ∧ a ∈ G.fp j) := fun j a ha => by
    unfold Gh.own at ha
    simp only at ha
    by_cases hj : j = i
    · rw [if_pos hj] at ha; exact .inl ⟨hj, List.mem_singleton.mp ha⟩
    · rw [if_neg hj] at ha; exact .inr ⟨hj, ha⟩
  refine ⟨R.gr, by rw [List.length_set, List.length_set]; exact R.len, R.t0, R.t1, R.tw, fun j sv e => ?_, fun j k a ha hb => ?_, fun j a ha => ?_, fun e he => ?_, R.xt, R.tb, R.kk⟩
  · by_cases hj : i = j
    · subst hj
      rw [List.getElem?_set_self hi] at e
      cases e
      exact ⟨.ref p, List.getElem?_set_self (by rw [← R.len]; exact hi), by unfold Gh.own; simp only [if_true]; exact hsv⟩
    · rw [List.getElem?_set_ne hj] at e ⊢
      obtain ⟨v, h1, h2⟩ := R.sl j sv e
      exact ⟨v, h1, by unfold Gh.own; simp only [if_neg (Ne.symm hj)]; exact h2⟩
  · rcases hne j a ha with ⟨h1, h2⟩ | ⟨h1, h2⟩ <;> rcases hne k a hb with ⟨h3, h4⟩ | ⟨h3, h4⟩
    · rw [h1, h3]
    · rw [h2] at h4; exact absurd h4 (f2 k)
    · rw [h4] at h2; exact absurd h2 (f2 j)
    · exact R.dj j k a h2 h4
  · rcases hne j a ha with ⟨h1, h2⟩ | ⟨h1, h2⟩
    · rw [h2]
      have hpn : H p ≠ none := by
        rw [hp]
        exact fun z => nomatch z
      exact ⟨hF, hpn, f1, f3⟩
    · exact R.fr j a h2
  · obtain ⟨h1, h2, h3, h4⟩ := R.ex e he
    refine ⟨h1, h2, h3, fun j hj => ?_⟩
    rcases hne j _ hj with ⟨_, q⟩ | ⟨_, q⟩
    · exact f4 e he q
    · exact h4 j q
theorem Rel.takeOwn {i : Nat} {p : Addr} {vs : List V} {xs : List Dt} (R : Rel K G ρ W σ F H) (hi : i < ρ.length) (fr : Fresh G p) (hp : H p = some (.lst vs)) (hF : F p = none) (hd : DqAll K F vs xs) :
    Rel K (G.own i p) (ρ.set i (some (.own xs))) W (σ.set i (some (.ref p))) F H := R.takeSv hi fr hp hF ⟨p, vs, rfl, rfl, hp, hd⟩
/-- slot i's own list is changed -/
theorem Rel.mutOwn {i : Nat} {p : Addr} {xs ys : List Dt} {us : List V} (R : Rel K G ρ W σ F H) (hs : ρ[i]? = some (some (.own xs))) (hσ : σ[i]? = some (some (.ref p))) (hd : DqAll K F us ys) :
    Rel K G (ρ.set i (some (.own ys))) W σ F (upd H p (.lst us)) := by
  obtain ⟨v, h1, p', vs, h2, h3, h4, h5⟩ := R.sl i _ hs
  rw [hσ] at h1
  cases h1
  cases h2
  have hi : i < ρ.length := (List.getElem?_eq_some_iff.mp hs).1
  have hm : p ∈ G.fp i := by rw [h3]; simp
  obtain ⟨q1, q2, q3, q4⟩ := R.fr i p hm
  refine ⟨⟨R.gr.ff, same_mut R.fh q1, R.gr.nw, fun a u e n m => ?_, fun a e => ?_, fun t => (R.gr.tb t).mut h4 nt_lst⟩, by rw [List.length_set]; exact R.len, R.t0, R.t1, ?_, fun j sv e => ?_, R.dj, fun j a ha => ?_, fun e he => ?_, R.xt, R.tb.mut h4 nt_lst, R.kk⟩
  · rw [upd_ne (fun z => by rw [z, q3] at e; cases e)]
    exact R.gr.kp a u e n m
  · by_cases ha : a = p
    · subst ha; rw [upd_same]; exact fun z => nomatch z
    · rw [upd_ne ha]; exact R.gr.th a e
  · have t := R.tw
    revert t
    cases hT : G.T <;> cases W <;> intro t
    · trivial
    · exact t
    · exact t
    · obtain ⟨tv, h1, h2, h3⟩ := t
      exact ⟨tv, by rw [upd_ne (fun z => q4 (by rw [hT, z]))]; exact h1, h2, h3⟩
  · by_cases hj : i = j
    · subst hj
      rw [List.getElem?_set_self hi] at e
      cases e
      exact ⟨.ref p, hσ, p, us, rfl, h3, upd_same, hd⟩
    · rw [List.getElem?_set_ne hj] at e
      obtain ⟨v, h1, h2⟩ := R.sl j sv e
      exact ⟨v, h1, h2.keep (.refl _) fun a o ho _ ha => by rw [upd_ne fun z => hj (R.dj i j p hm (by rw [← z]; exact ha))]; exact ho⟩
  · obtain ⟨h1, h2, h3, h4⟩ := R.fr j a ha
    refine ⟨h1, ?_, h3, h4⟩
    by_cases hz : a = p
    · subst hz; rw [upd_same]; exact fun z => nomatch z
    · rw [upd_ne hz]; exact h2
  · obtain ⟨h1, h2, h3, h4⟩ := R.ex e he
    exact ⟨by rw [upd_ne (fun z => h4 i (by rw [z]; exact hm))]; exact h1, h2, h3, h4⟩
/-- slot i's own list is told to all -/
theorem Rel.frz (R : Rel K G ρ W σ F H) (i : Nat) : ∃ G' F', SameB G G' ∧ Same F F' ∧ Rel K G' (frzS i ρ) W σ F' H := by
  unfold frzS
  split
  · rename_i xs hs
    obtain ⟨v, h1, p, vs, rfl, h3, h4, h5⟩ := R.sl i _ hs
    have hi : i < ρ.length := (List.getElem?_eq_some_iff.mp hs).1
    have hm : p ∈ G.fp i := by rw [h3]; simp
    obtain ⟨q1, q2, q3, q4⟩ := R.fr i p hm
    have sF : Same F (upd F p (.lst vs)) := same_new q1
    refine ⟨{ G with fp := fun j => if j = i then [] else G.fp j }, upd F p (.lst vs), ⟨rfl, rfl, rfl, rfl, rfl⟩, sF, ⟨⟨R.gr.ff.trans sF, fun a u e => ?_, fun a e => ?_, R.gr.kp, R.gr.th, fun t => (R.gr.tb t).ff q1 h4 nt_lst⟩, by rw [List.length_set]; exact R.len, R.t0, R.t1, ?_, fun j sv e => ?_, fun j k a ha hb => ?_, fun j a ha => ?_, fun e he => ?_, R.xt, R.tb.ff q1 h4 nt_lst, R.kk⟩⟩
    · by_cases ha : a = p
      · subst ha; rw [upd_same] at e; cases e; exact h4
      · rw [upd_ne ha] at e; exact R.fh a u e
    · by_cases ha : a = p
      · subst ha; exact .inr q3
      · rw [upd_ne ha] at e; exact R.gr.nw a e
    · have t := R.tw
      revert t
      show TwOk K F H G.T W → TwOk K (upd F p (.lst vs)) H G.T W
      cases hT : G.T <;> cases W <;> intro t
      · trivial
      · exact t
      · exact t
      · obtain ⟨tv, t1, t2, t3⟩ := t
        exact ⟨tv, t1, by rw [upd_ne (fun z => q4 (by rw [hT, z]))]; exact t2, t3.mono sF⟩
    · by_cases hj : i = j
      · subst hj
        rw [List.getElem?_set_self hi] at e
        cases e
        exact ⟨.ref p, h1, .lst (.inl (.inl upd_same)) (h5.mono sF)⟩
      · rw [List.getElem?_set_ne hj] at e
        obtain ⟨v, e1, e2⟩ := R.sl j sv e
        refine ⟨v, e1, ?_⟩
        simp only [if_neg (Ne.symm hj)]
        exact e2.keep sF fun _ _ e _ _ => e
    · simp only at ha hb
      by_cases hj : j = i
      · rw [if_pos hj] at ha; cases ha
      · by_cases hk : k = i
        · rw [if_pos hk] at hb; cases hb
        · rw [if_neg hj] at ha; rw [if_neg hk] at hb; exact R.dj j k a ha hb
    · simp only at ha
      by_cases hj : j = i
      · rw [if_pos hj] at ha; cases ha
      · rw [if_neg hj] at ha
        obtain ⟨e1, e2, e3, e4⟩ := R.fr j a ha
        exact ⟨by rw [upd_ne (fun z => hj (R.dj j i p (by rw [← z]; exact ha) hm))]; exact e1, e2, e3, e4⟩
    · obtain ⟨e1, e2, e3, e4⟩ := R.ex e he
      refine ⟨e1, by rw [upd_ne (fun z => e4 i (by rw [z]; exact hm))]; exact e2, e3, fun j hj => ?_⟩
      simp only at hj
      by_cases hk : j = i
      · rw [if_pos hk] at hj; cases hj
      · rw [if_neg hk] at hj; exact e4 j hj
  · exact ⟨G, F, .refl G, .refl F, R⟩
end
section
variable {X : Cx} {XE : Str → Hp → Prop} {st : Stmt} {sts : List Stmt} {fa fb : SS} {e a b : Expr} {fe fk : SE} {fl : SA} {bc : SB} {pos : Pos}
theorem s_nil : PSs X [] (tS X.K XE sPass) := pss_nil.weak fun D σ H ⟨G, ρ, W, F, R, p⟩ => p G σ F H (.refl _) (.refl _) R
theorem s_one (h : PS X st (tS X.K XE fa)) : PSs X [st] (tS X.K XE fa) := pss_one h
theorem s_cons (h1 : PS X st (tS X.K XE fa)) (h2 : PSs X sts (tS X.K XE fb)) : PSs X (st :: sts) (tS X.K XE (sSeq fa fb)) := by
  refine (pss_cons h1 h2).weak fun D σ H ⟨G, ρ, W, F, R, p⟩ => ⟨G, ρ, W, F, R, ?_⟩
  unfold sSeq at p
  cases hf : fa ρ W with
  | nx ρ1 W1 =>
    rw [hf] at p
    exact fun G1 σ1 F1 H1 b1 s1 R1 => ⟨G1, ρ1, W1, F1, R1, p.shift b1 s1⟩
  | rt r W1 => rw [hf] at p; exact p
  | exc c => rw [hf] at p; exact p
  | bad => rw [hf] at p; exact p
theorem s_never : PS X st (tS X.K XE sNever) := ps_never.weak fun D σ H ⟨G, ρ, W, F, R, p⟩ => p
theorem s_frz (i : Nat) (h : PS X st (tS X.K XE fa)) : PS X st (tS X.K XE (fun ρ W => fa (frzS i ρ) W)) := by
  refine h.weak fun D σ H ⟨G, ρ, W, F, R, p⟩ => ?_
  obtain ⟨G', F', b, s, R'⟩ := R.frz i
  exact ⟨G', frzS i ρ, W, F', R', p.shift b s⟩
theorem s_expr (he : PE X e (tE X.K XE fe)) (hs : swapsWith e none pos.line X.env = pure false := by rfl) : PS X (.Expr e pos) (tS X.K XE (sExpr fe)) :=
  (ps_expr he hs).weak fun D σ H ⟨G, ρ, W, F, R, p⟩ => ⟨G, ρ, W, F, R, p.of_rOut.mono fun d W1 q v F1 H1 s1 R1 hv => q G σ F1 H1 (.refl _) s1 R1⟩
theorem s_ret (he : PE X e (tE X.K XE fe)) : PS X (.Return (some e) pos) (tS X.K XE (sRet fe)) :=
  (ps_ret he).weak fun D σ H ⟨G, ρ, W, F, R, p⟩ => ⟨G, ρ, W, F, R, p.of_rOut.mono fun d W1 q v F1 H1 s1 R1 hv => q G ρ σ v F1 H1 (.refl _) s1 R1 hv⟩
theorem s_retL (he : PE X e (tL X.K XE fl)) : PS X (.Return (some e) pos) (tS X.K XE (sRetL fl)) :=
  (ps_ret he).weak fun D σ H ⟨G, ρ, W, F, R, p⟩ => ⟨G, ρ, W, F, R, p.of_rOut.mono fun ds W1 q np vs F1 H1 s1 R1 fr hp hF hv => q G ρ σ _ F1 H1 (.refl _) s1 R1 ⟨np, vs, rfl, fr.1, hp, hF, hv⟩⟩
theorem s_asg {i : Nat} (h : PS X st (tAsg (tE X.K XE fe) (gName i))) : PS X st (tS X.K XE (sAsg i fe)) :=
  h.weak fun D σ H ⟨G, ρ, W, F, R, p⟩ => ⟨G, ρ, W, F, R, p.of_rOut.mono fun d W1 q v F1 H1 s1 R1 hv => by
    obtain ⟨hi, q⟩ := Po.of_ite q
    exact q G _ F1 H1 (.refl _) s1 (R1.setD hi hv)⟩
theorem s_asgG {is : List Nat} {g : SG} (h : PS X st (tAsg (tE X.K XE fe) (tG Dq X.K is g))) : PS X st (tS X.K XE (sAsgG g fe)) :=
  h.weak fun D σ H ⟨G, ρ, W, F, R, p⟩ => ⟨G, ρ, W, F, R, p.of_rOut.mono fun d W1 q v F1 H1 s1 R1 hv => by
    split at q
    · rename_i ρ' hg
      exact ⟨G, ρ, W1, F1, d, ρ', R1, hv, hg, fun _ σ' _ _ R2 => q G σ' F1 H1 (.refl _) s1 R2⟩
    · exact q.elim⟩
theorem s_own {i : Nat} (h : PS X st (tAsg (tL X.K XE fl) (gName i))) : PS X st (tS X.K XE (sOwn i fl)) :=
  h.weak fun D σ H ⟨G, ρ, W, F, R, p⟩ => ⟨G, ρ, W, F, R, p.of_rOut.mono fun ds W1 q np vs F1 H1 s1 R1 fr hp hF hv => by
    obtain ⟨hi, q⟩ := Po.of_ite q
    exact q _ _ F1 H1 (G.own_same i np) s1 (R1.takeOwn hi fr hp hF hv)⟩
theorem s_town {i : Nat} (h : PS X st (tAsg (tL X.K XE fl) (gName i))) : PS X st (tS X.K XE (sTown i fl)) :=
  h.weak fun D σ H ⟨G, ρ, W, F, R, p⟩ => ⟨G, ρ, W, F, R, p.of_rOut.mono fun ds W1 q np vs F1 H1 s1 R1 fr hp hF hv => by
    obtain ⟨⟨hi, hW⟩, q'⟩ := Po.of_ite q
    clear q
    have q := q'
    clear q'
    subst hW
    obtain ⟨f1, f2, f3, f4⟩ := fr
    have hT : G.T = none := by
      have t := R1.tw
      cases hT : G.T with
      | none => rfl
      | some t' => rw [hT] at t; exact t.elim
    have hT0 : G.T0 = none := by
      cases h0 : G.T0 with
      | none => rfl
      | some t => rw [R1.t0 t h0] at hT; cases hT
    refine q { G with T := some np } _ F1 H1 ⟨rfl, rfl, rfl, rfl, rfl⟩ s1 ⟨R1.gr, by rw [List.length_set, List.length_set]; exact R1.len, fun t ht => (by rw [hT0] at ht; cases ht), fun t ht => (by cases ht; exact .inr f1), ⟨vs, hp, hF, hv⟩, fun j sv e => ?_, R1.dj, fun j a ha => ?_, fun e he => ?_, R1.xt, R1.tb, R1.kk⟩
    · by_cases hj : i = j
      · subst hj
        rw [List.getElem?_set_self hi] at e
        cases e
        exact ⟨.ref np, List.getElem?_set_self (by rw [← R1.len]; exact hi), np, rfl, rfl⟩
      · rw [List.getElem?_set_ne hj] at e ⊢
        obtain ⟨v, h1, h2⟩ := R1.sl j sv e
        refine ⟨v, h1, ?_⟩
        cases sv with
        | town => obtain ⟨t, h3, _⟩ := h2; rw [hT] at h3; cases h3
        | _ => exact h2
    · obtain ⟨e1, e2, e3, e4⟩ := R1.fr j a ha
      exact ⟨e1, e2, e3, fun z => f2 j (by cases z; exact ha)⟩
    · obtain ⟨e1, e2, e3, e4⟩ := R1.ex e he
      exact ⟨e1, e2, fun z => f4 e he (by cases z; rfl), e4⟩⟩
theorem s_if {c : Expr} {as bs : List Stmt} (hc : PT X c (tT X.K XE bc)) (ha : PSs X as (tS X.K XE fa)) (hb : PSs X bs (tS X.K XE fb)) : PS X (.If c as bs pos) (tS X.K XE (sIf bc fa fb)) :=
  (ps_if hc ha hb).weak fun D σ H ⟨G, ρ, W, F, R, p⟩ => ⟨G, ρ, W, F, R, p.of_rOut.mono fun k W1 q F1 H1 s1 R1 => by
    cases k with
    | true => exact ⟨G, ρ, W1, F1, R1, Po.shift q (.refl _) s1⟩
    | false => exact ⟨G, ρ, W1, F1, R1, Po.shift q (.refl _) s1⟩⟩
theorem s_for {D0 : Rl} {tg iter : Expr} {body : List Stmt} {is : List Nat} {g : SG} (hp : PassesOwn (model X.prog X.w) X.A X.env X.xe) (hc : X.calm = true) (hi : PI X tg iter (tI D0 X.K XE fl)) (hg : PG X tg (tG D0 X.K is g)) (hb : PSs X body (tS X.K XE fb))
    (hs : ∀ x, foldedSetIterable iter X.env x = pure x := by intro _; rfl) : PS X (.For tg iter body [] pos) (tS X.K XE (sFor fl g fb)) := by
  refine (ps_for hp hc hi hg hb hs).weak fun D σ H ⟨G, ρ, W, F, R, p⟩ => ⟨G, ρ, W, F, R, p.of_rOut.mono fun ds W1 q J F1 H1 s1 R1 wk => ?_⟩
  refine for_it wk (fun i σ' H' => ∃ G' ρ' W' F', SameB G G' ∧ Same F1 F' ∧ Rel X.K G' ρ' W' σ' F' H' ∧ Po X.K XE G' F' (fL g fb (ds.drop i) ρ' W') D) ⟨G, ρ, W1, F1, .refl _, .refl _, R1, Po.shift (by rw [List.drop_zero]; exact q) (.refl _) s1⟩ (fun i σ' H' _ ⟨G', ρ', W', F', _, si, Ri, _⟩ => ⟨F', si, Ri.fh⟩) ?_ ?_
  · rintro i x σ' H' H3 hi ⟨G', ρ', W', F', bi, si, Ri, po⟩ hy
    obtain ⟨F3, d, hd, gr, hx⟩ := hy F' si Ri.fh
    have hdrop : ds.drop i = d :: ds.drop (i + 1) := by
      obtain ⟨h1, h2⟩ := List.getElem?_eq_some_iff.mp hd
      rw [List.drop_eq_getElem_cons h1, h2]
    rw [hdrop] at po
    unfold fL at po
    cases hgd : g d ρ' with
    | none => simp only [hgd] at po; exact po.elim
    | some ρ1 =>
      simp only [hgd] at po
      refine ⟨G', ρ', W', F3, d, ρ1, Ri.grow gr, hx, hgd, fun _ σ2 _ _ R4 => ⟨G', ρ1, W', F3, R4, ?_⟩⟩
      cases hf : fb ρ1 W' with
      | nx ρ2 W2 =>
        simp only [hf] at po
        exact fun G2 σ3 F4 H4 b4 s4 R5 => ⟨G2, ρ2, W2, F4, bi.trans b4, (si.trans gr.ff).trans s4, R5, po.shift b4 (gr.ff.trans s4)⟩
      | rt r W2 =>
        simp only [hf] at po
        exact fun G2 ρ2 σ3 v F4 H4 b4 s4 R5 hv => po G2 ρ2 σ3 v F4 H4 b4 (gr.ff.trans s4) R5 hv
      | exc c => simp only [hf] at po; exact po
      | bad => simp only [hf] at po; exact po.elim
  · rintro σ' H' ⟨G', ρ', W', F', bi, si, Ri, po⟩
    rw [List.drop_length] at po
    exact po G' σ' F' H' (.refl _) (.refl _) Ri
end
end Sx

namespace Sx
open PySem PySem.Spec PyProof.Rows L2
theorem setD_all {K : PySem.W.Frag} {F : Hp} {vs : List V} {xs ys : List Dt} {v : V} {k d : Dt} (h : setD xs k d = some ys) (ha : DqAll K F vs xs) (hv : Dq K F v d) : ∃ (n : Int) (j : Nat), k = .int n ∧ ixN vs.length n = some j ∧ DqAll K F (vs.set j v) ys := by
  cases k <;> simp only [setD] at h <;> try (cases h; done)
  rename_i n
  cases hj : ixN xs.length n with
  | none => rw [hj] at h; cases h
  | some j =>
    rw [hj] at h
    cases h
    exact ⟨n, j, rfl, by rw [ha.length]; exact hj, ha.set j hv⟩
section
variable {X : Cx} {XE : Str → Hp → Prop} {st : Stmt} {e a b : Expr} {fe fk : SE} {fl : SA} {pos : Pos} {i : Nat}
/-- x.append(e) -/
theorem s_app (h : PS X st (tDrop (tBM X.K "list" rAppend (tVar i) (tCons (tE X.K XE fe) tNil)))) : PS X st (tS X.K XE (sApp i fe)) := by
  refine h.weak fun D σ H ⟨G, ρ, W, F, R, p⟩ => ?_
  unfold sApp at p
  split at p
  · rename_i xs hs
    obtain ⟨v, h1, np, vs, rfl, h3, h4, h5⟩ := R.sl i _ hs
    refine ⟨_, h1, .inl ⟨rfl, _, SqL.of h4⟩, G, ρ, W, F, R, p.of_rOut.mono fun d W1 q v F1 H1 s1 R1 hv => ?_⟩
    obtain ⟨hl, q⟩ := Po.of_ite q
    obtain ⟨v', h1', np', vs', e1, h3', h4', h5'⟩ := R1.sl i _ hs
    rw [h1] at h1'
    cases h1'
    cases e1
    refine ⟨np, vs', v, rfl, rfl, h4', Nat.lt_of_lt_of_le (by rw [h5'.length]; exact hl) (sz5 (Nat.le_refl _)), ?_⟩
    exact q G σ F1 _ (.refl _) s1 (R1.mutOwn hs h1 (h5'.append (.one hv)))
  · exact p.elim
theorem s_setT (h : PS X st (tAsg (tE X.K XE fe) (gSub (tVar i) (tE X.K XE fk) rSetL))) : PS X st (tS X.K XE (sSetT i fk fe)) := by
  refine h.weak fun D σ H ⟨G, ρ, W, F, R, p⟩ => ?_
  unfold sSetT at p
  split at p
  · rename_i hs
    refine ⟨G, ρ, W, F, R, p.of_rOut.mono fun d W1 q v F1 H1 s1 R1 hv => ?_⟩
    obtain ⟨v', h1, t, hT, rfl⟩ := R1.sl i _ hs
    refine ⟨_, h1, G, ρ, W1, F1, R1, q.of_rOut.mono fun kd W2 q2 kv F2 H2 s2 R2 hk => ?_⟩
    split at q2
    · rename_i ws
      cases hsd : setD ws kd d with
      | none => rw [hsd] at q2; exact q2.elim
      | some ys =>
        rw [hsd] at q2
        have tw := R2.tw
        rw [hT] at tw
        obtain ⟨tv, t1, t2, t3⟩ := tw
        obtain ⟨n, j, rfl, hj, hall⟩ := setD_all hsd t3 (hv.mono s2)
        cases hk
        have g : Gr X.K (fun a => a = t) F2 H2 F2 (upd H2 t (.lst (tv.set j v))) := ⟨.refl _, same_mut R2.fh t2, fun _ e => .inl e, fun a o e n _ => by rw [upd_ne n]; exact e, fun a e => by
          by_cases ha : a = t
          · subst ha; rw [upd_same]; exact fun z => nomatch z
          · rw [upd_ne ha]; exact e, fun tb => tb.mut t1 nt_lst⟩
        exact ⟨t, tv, n, j, rfl, rfl, t1, hj, q2 G σ F2 _ (.refl _) (s1.trans s2) (R2.newTown (W' := some ys) hT g upd_same t2 hall)⟩
    · exact q2.elim
  · exact p.elim
theorem d_ixT {x : Str} {p2 : Pos} (hx : PE X (.Name x p2) (tVar i)) (hb : PE X b (tE X.K XE fk)) (hs : PlainIx b) : PE X (.Subscript (.Name x p2) b pos) (tE X.K XE (eIxT i fk)) := by
  refine (pe_ix ix_list hx hb hs).weak fun σ H Q ⟨G, ρ, W, F, R, p⟩ => ?_
  unfold eIxT at p
  split at p
  · rename_i hs
    obtain ⟨v', h1, t, hT, rfl⟩ := R.sl i _ hs
    refine ⟨_, h1, G, ρ, W, F, R, p.of_bind.mono fun kd W1 q kv F1 H1 s1 R1 hk => ?_⟩
    simp only at q
    split at q
    · rename_i ws
      obtain ⟨z, hz, q2⟩ := Pg.of_ofO q
      have tw := R1.tw
      rw [hT] at tw
      obtain ⟨tv, t1, t2, t3⟩ := tw
      cases kd <;> simp only [ixD] at hz <;> try (cases hz; done)
      cases hk
      obtain ⟨w, e1, e2⟩ := atI_all t3 hz
      exact ⟨t, tv, _, w, rfl, rfl, SqL.of t1, e1, q2 w F1 H1 s1 R1 e2⟩
    · exact q.elim
  · exact p.elim
/-- a comprehension's list, told to all (a statement x = [..] of its own) -/
theorem frz_of {ga : SA} {σ : L2.St} {H : Hp} {Q : VK} (h : tE X.K XE (eFrz ga) σ H Q) : tL X.K XE ga σ H Q := by
  obtain ⟨G, ρ, W, F, R, p⟩ := h
  refine ⟨G, ρ, W, F, R, p.of_bind.mono fun ds W1 q np vs F1 H1 s1 R1 fr hp hF hv => ?_⟩
  have sF : Same F1 (upd F1 np (.lst vs)) := same_new hF
  exact q _ (upd F1 np (.lst vs)) H1 (s1.trans sF) (R1.freeze hp hF fr) (.lst (.inl (.inl upd_same)) (hv.mono sF))
theorem as_frz {ga : SA} (h : PS X st (tAsg (tL X.K XE ga) (gName i))) : PS X st (tAsg (tE X.K XE (eFrz ga)) (gName i)) := h.weak fun _ _ _ => frz_of
theorem as_comp {D0 : Rl} {it : SA} {g : SG} {c : SB} {e : SE} {is vs : List Nat} (hsub : ∀ j ∈ is, j ∈ vs) (h : PS X st (tAsg (tLc (tI D0 X.K XE it) (tG D0 X.K is g) (tT X.K X0 c) (tE X.K X0 e) vs) (gName i))) : PS X st (tAsg (tL X.K XE (lComp it g c e vs)) (gName i)) := h.weak fun _ _ _ => comp_of hsub
end

/-! ### several names at once -/
abbrev SM := Sl → Tw → Res (List SV × Tw)
def mNil : SM := fun _ W => .ok ([], W)
def mD (e : SE) (m : SM) : SM := fun ρ W => (e ρ W).bind fun p => (m ρ p.2).bind fun q => .ok (.d p.1 :: q.1, q.2)
def setM : List Nat → List SV → Sl → Option Sl
  | [], [], ρ => some ρ
  | i :: is, sv :: svs, ρ => if i < ρ.length then setM is svs (ρ.set i (some sv)) else none
  | _, _, _ => none
def sPar (is : List Nat) (m : SM) : SS := fun ρ W => rOut (m ρ W) fun svs W1 => match setM is svs ρ with
  | some ρ' => .nx ρ' W1
  | none => .bad
section
variable {X : Cx} {XE : Str → Hp → Prop} {st : Stmt} {e : Expr} {es : List Expr} {fe : SE} {fl : SA} {m : SM} {pos : Pos}
end

/-! ### defs -/
def start0 (m : Nat) (ds : List Dt) : Sl := ds.map (fun x => some (.d x)) ++ List.replicate (m - ds.length) none
def startT (m : Nat) (ds : List Dt) : Sl := match ds with
  | d :: ds => some (.d d) :: some .town :: (ds.map (fun x => some (.d x)) ++ List.replicate (m - (ds.length + 2)) none)
  | [] => []
def runP (m : Nat) (B : SS) (ds : List Dt) : Res Dt := match B (start0 m ds) none with
  | .rt (.d x) _ => .ok x
  | .nx _ _ => .ok .none
  | .exc c => .exc c
  | _ => .bad
def runL (m : Nat) (B : SS) (ds : List Dt) : Res (List Dt) := match B (start0 m ds) none with
  | .rt (.own x) _ => .ok x
  | .exc c => .exc c
  | _ => .bad
def runT (m : Nat) (B : SS) (ds : List Dt) (ws : List Dt) : Res (Dt × List Dt) := match B (startT m ds) (some ws) with
  | .rt (.d x) (some ws') => .ok (x, ws')
  | .nx _ (some ws') => .ok (.none, ws')
  | .exc c => .exc c
  | _ => .bad
theorem dq_slots {K : PySem.W.Frag} {F H : Hp} {T : Option Addr} {fp : Nat → List Addr} {k : Nat} : ∀ {vs : List V} {ds : List Dt} {i : Nat} {sv : SV}, DqAll K F vs ds → (ds.map (fun x => some (SV.d x)) ++ List.replicate k none)[i]? = some (some sv) →
    ∃ v, (vs.map some ++ List.replicate k none)[i]? = some (some v) ∧ SlOk K T F H v (fp i) sv := by
  intro vs ds i sv h e
  by_cases hi : i < ds.length
  · rw [List.getElem?_append_left (by simpa using hi), List.getElem?_map] at e
    have hl := h.length
    cases hd : ds[i]? with
    | none => rw [hd] at e; cases e
    | some d =>
      rw [hd] at e
      cases e
      obtain ⟨v, h1, h2⟩ := h.getD hd
      exact ⟨v, by rw [List.getElem?_append_left (by simp; omega), List.getElem?_map, h1]; rfl, h2⟩
  · rw [List.getElem?_append_right (by simpa using hi)] at e
    simp only [List.getElem?_replicate] at e
    split at e <;> cases e
theorem Rel.start {K : PySem.W.Frag} {F H : Hp} {vs : List V} {ds : List Dt} {k : Nat} (sm : Same F H) (tb : TabsF (tabsOf K) F H) (h : DqAll K F vs ds) : Rel K ⟨K, none, F, H, [], none, fun _ => []⟩ (ds.map (fun x => some (SV.d x)) ++ List.replicate k none) none (vs.map some ++ List.replicate k none) F H :=
  ⟨.refl sm, by simp [h.length], fun t e => (by cases e), fun t e => (by cases e), trivial, fun i sv e => dq_slots h e, fun i j a ha => (by cases ha), fun i a ha => (by cases ha), fun e he => (by cases he), fun e he => (by cases he), tb, rfl⟩
theorem Rel.startT {K : PySem.W.Frag} {F H : Hp} {v0 : V} {d : Dt} {t : Addr} {tv : List V} {ws : List Dt} {vs : List V} {ds : List Dt} {k : Nat} (sm : Same F H) (tb : TabsF (tabsOf K) F H) (h0 : Dq K F v0 d) (h : DqAll K F vs ds) (t1 : H t = some (.lst tv)) (t2 : F t = none) (t3 : DqAll K F tv ws) :
    Rel K ⟨K, some t, F, H, [], some t, fun _ => []⟩ (some (.d d) :: some .town :: (ds.map (fun x => some (SV.d x)) ++ List.replicate k none)) (some ws) (some v0 :: some (.ref t) :: (vs.map some ++ List.replicate k none)) F H :=
  ⟨.refl sm, by simp [h.length], fun t' e => e, fun t' e => .inl e, ⟨tv, t1, t2, t3⟩, fun i sv e => by
    match i, e with
    | 0, e => cases e; exact ⟨v0, rfl, h0⟩
    | 1, e => cases e; exact ⟨.ref t, rfl, t, rfl, rfl⟩
    | i + 2, e => exact dq_slots (fp := fun j => []) (i := i) h e, fun i j a ha => (by cases ha), fun i a ha => (by cases ha), fun e he => (by cases he), fun e he => (by cases he), tb, rfl⟩
section
variable {P : Program} {w : World} {K : PySem.W.Frag} {mg : Str → Option Value} {base : Heap} {x qual : Str} {st : Stmt} {f : Addr} {fd : FuncData} {N ps : List Str} {k n : Nat} {B : SS}
theorem fn_P (F : Fun K x qual st f fd) (S : FnScope N ps (defScope st)) (hn : ps.length = n)
    (hb : ∀ (cdv : Value) (A : Around) (outer : List Env) (s : Shared) (H : Hp) (E : XK), Room k (A.deeper (envOfC qual (defScope st) s.heap.objs.size f cdv)) → PSs (cxOf CX0 P w K mg base N qual (defScope st) f cdv A outer s H E).nox (defBody st) (tS K X0 B)) :
    FnOk P w K mg base CX0 (k + 1) f fd ps (spP K n (runP N.length B)) := by
  refine F.ok S (fun vs H Q E h => ?_) fun cdv A outer s H vs Q E hr h => ⟨tS K X0 B, hb cdv A outer s H E hr, ?_⟩
  · obtain ⟨Fz, ds, _, _, hd, hl, _⟩ := h
    rw [hd.length, hl, hn]
  · obtain ⟨Fz, ds, sm, tb, hd, hl, hm⟩ := h
    have e : L2.start N vs = vs.map some ++ List.replicate (N.length - ds.length) none := by unfold L2.start; rw [hd.length]
    rw [e]
    refine ⟨_, start0 N.length ds, none, Fz, Rel.start sm tb hd, ?_⟩
    unfold runP at hm
    cases hB : B (start0 N.length ds) none with
    | nx ρ W =>
      rw [hB] at hm
      exact fun G' σ' F' H' b s R => hm .non F' H' (by have g := R.gr; unfold Gh.tm at g; rw [b.T0, b.F0, b.H0] at g; exact g.mono fun _ z => nomatch z) .non
    | rt r W =>
      rw [hB] at hm
      cases r with
      | d x => exact fun G' ρ' σ' v F' H' b s R hv => hm v F' H' (by have g := R.gr; unfold Gh.tm at g; rw [b.T0, b.F0, b.H0] at g; exact g.mono fun _ z => nomatch z) hv
      | _ => exact hm.elim
    | exc c => rw [hB] at hm; exact hm.elim
    | bad => rw [hB] at hm; exact hm.elim
theorem fn_L (F : Fun K x qual st f fd) (S : FnScope N ps (defScope st)) (hn : ps.length = n)
    (hb : ∀ (cdv : Value) (A : Around) (outer : List Env) (s : Shared) (H : Hp) (E : XK), Room k (A.deeper (envOfC qual (defScope st) s.heap.objs.size f cdv)) → PSs (cxOf CX0 P w K mg base N qual (defScope st) f cdv A outer s H E).nox (defBody st) (tS K X0 B)) :
    FnOk P w K mg base CX0 (k + 1) f fd ps (spL K n (runL N.length B)) := by
  refine F.ok S (fun vs H Q E h => ?_) fun cdv A outer s H vs Q E hr h => ⟨tS K X0 B, hb cdv A outer s H E hr, ?_⟩
  · obtain ⟨Fz, ds, _, _, hd, hl, _⟩ := h
    rw [hd.length, hl, hn]
  · obtain ⟨Fz, ds, sm, tb, hd, hl, hm⟩ := h
    have e : L2.start N vs = vs.map some ++ List.replicate (N.length - ds.length) none := by unfold L2.start; rw [hd.length]
    rw [e]
    refine ⟨_, start0 N.length ds, none, Fz, Rel.start sm tb hd, ?_⟩
    unfold runL at hm
    cases hB : B (start0 N.length ds) none with
    | nx ρ W => rw [hB] at hm; exact hm.elim
    | rt r W =>
      rw [hB] at hm
      cases r with
      | own xs =>
        intro G' ρ' σ' v F' H' b s R hv
        obtain ⟨p, us, rfl, h0, h1, h2, h3⟩ := hv
        exact hm p us F' H' (by have g := R.gr; unfold Gh.tm at g; rw [b.T0, b.F0, b.H0] at g; exact g.mono fun _ z => nomatch z) (by rw [b.H0] at h0; exact h0) h1 h2 h3
      | _ => exact hm.elim
    | exc c => rw [hB] at hm; exact hm.elim
    | bad => rw [hB] at hm; exact hm.elim
theorem fn_T (F : Fun K x qual st f fd) (S : FnScope N ps (defScope st)) (hn : ps.length = n + 2)
    (hb : ∀ (cdv : Value) (A : Around) (outer : List Env) (s : Shared) (H : Hp) (E : XK), Room k (A.deeper (envOfC qual (defScope st) s.heap.objs.size f cdv)) → PSs (cxOf CX0 P w K mg base N qual (defScope st) f cdv A outer s H E).nox (defBody st) (tS K X0 B)) :
    FnOk P w K mg base CX0 (k + 1) f fd ps (spT K n (runT N.length B)) := by
  refine F.ok S (fun vs H Q E h => ?_) fun cdv A outer s H vs Q E hr h => ⟨tS K X0 B, hb cdv A outer s H E hr, ?_⟩
  · obtain ⟨Fz, d, ds, v0, t, vr, tv, ws, rfl, _, _, _, hd, hl, _⟩ := h
    rw [List.length_cons, List.length_cons, hd.length, hl, hn]
  · obtain ⟨Fz, d, ds, v0, t, vr, tv, ws, rfl, sm, tb, h0, hd, hl, t1, t2, t3, hm⟩ := h
    have e : L2.start N (v0 :: .ref t :: vr) = some v0 :: some (.ref t) :: (vr.map some ++ List.replicate (N.length - (ds.length + 2)) none) := by
      unfold L2.start
      rw [List.length_cons, List.length_cons, hd.length]
      rfl
    rw [e]
    refine ⟨_, Sx.startT N.length (d :: ds), some ws, Fz, Rel.startT sm tb h0 hd t1 t2 t3, ?_⟩
    unfold runT at hm
    cases hB : B (Sx.startT N.length (d :: ds)) (some ws) with
    | nx ρ W =>
      rw [hB] at hm
      cases W with
      | none => exact hm.elim
      | some ws' =>
        intro G' σ' F' H' b s R
        have hT : G'.T = some t := R.t0 t (by rw [b.T0])
        have tw := R.tw
        rw [hT] at tw
        obtain ⟨tv', q1, q2, q3⟩ := tw
        exact hm .non F' H' tv' (by have g := R.gr; unfold Gh.tm at g; rw [b.T0, b.F0, b.H0] at g; exact g.mono fun _ z => (Option.some.inj z).symm) q1 q2 q3 .non
    | rt r W =>
      rw [hB] at hm
      cases r with
      | d x =>
        cases W with
        | none => exact hm.elim
        | some ws' =>
          intro G' ρ' σ' v F' H' b s R hv
          have hT : G'.T = some t := R.t0 t (by rw [b.T0])
          have tw := R.tw
          rw [hT] at tw
          obtain ⟨tv', q1, q2, q3⟩ := tw
          exact hm v F' H' tv' (by have g := R.gr; unfold Gh.tm at g; rw [b.T0, b.F0, b.H0] at g; exact g.mono fun _ z => (Option.some.inj z).symm) q1 q2 q3 hv
      | _ => cases W <;> exact hm.elim
    | exc c => rw [hB] at hm; exact hm.elim
    | bad => rw [hB] at hm; exact hm.elim
end
end Sx

namespace Sx
open PySem PySem.Spec PyProof.Rows L2
/-! ### what a law's derivations stand on -/
abbrev FnP (K : PySem.W.Frag) (x : Str) (st : Stmt) (f : Addr) (fd : FuncData) : Prop := FunD K x x (defArgs st) (defBody st) (defScope st) [] [] f fd
theorem toFun {K : PySem.W.Frag} {x : Str} {st : Stmt} {f : Addr} {fd : FuncData} (F : FnP K x st f fd) : Fun K x x st f fd := by
  obtain ⟨⟨oc, od, dV, kV, doc, pm, an, cdv, ct, osl, e, h1, h2, h3, h4⟩, kp⟩ := F
  refine ⟨⟨oc, od, kV, doc, pm, an, cdv, ct, osl, ?_, h1, h2⟩, kp⟩
  rw [e]
  have h : dV = Value.none := by
    rcases h3 with ⟨_, h⟩ | h
    · exact h
    · obtain ⟨_, _, _, _, _, _, _⟩ := h
      simp_all
  rw [h]
def CalP (P : Program) (w : World) (K : PySem.W.Frag) (mg : Str → Option Value) (base : Heap) (x : Str) (k n : Nat) (ps : List Str) (Fs : List Dt → Res Dt) : Prop :=
  ∃ f fd, FnOk P w K mg base CX0 k f fd ps (spP K n Fs) ∧ mg x = some (.ref f) ∧ PySem.W.keepIn K (.ref f) = true ∧ Binds K fd ps []
def CalL (P : Program) (w : World) (K : PySem.W.Frag) (mg : Str → Option Value) (base : Heap) (x : Str) (k n : Nat) (ps : List Str) (Fs : List Dt → Res (List Dt)) : Prop :=
  ∃ f fd, FnOk P w K mg base CX0 k f fd ps (spL K n Fs) ∧ mg x = some (.ref f) ∧ PySem.W.keepIn K (.ref f) = true ∧ Binds K fd ps []
def CalT (P : Program) (w : World) (K : PySem.W.Frag) (mg : Str → Option Value) (base : Heap) (x : Str) (k n : Nat) (ps : List Str) (Fs : List Dt → List Dt → Res (Dt × List Dt)) : Prop :=
  ∃ f fd, FnOk P w K mg base CX0 k f fd ps (spT K n Fs) ∧ mg x = some (.ref f) ∧ PySem.W.keepIn K (.ref f) = true ∧ Binds K fd ps []
theorem units64 {k : Nat} {A : Around} (h : Room k A) : A.units + 64 < cLine := by have := h.un; omega
theorem units65 {k : Nat} {A : Around} (h : Room k A) : A.units + 65 < cLine := by have := h.un; omega
theorem units1 {k : Nat} {A : Around} (h : Room k A) : A.units + 1 < cLine := by have := h.un; omega
section
variable {X : Cx} {XE : Str → Hp → Prop} {x : Str} {pos : Pos}
theorem ints_dq {K : PySem.W.Frag} {F : Hp} : ∀ is : List Int, DqAll K F (is.map V.int) (is.map PyData.int)
  | [] => .nil
  | i :: is => .cons (.int i) (ints_dq is)
end
/-- what the derivations ask of the names -/
structure Glob (K : PySem.W.Frag) (mg : Str → Option Value) : Prop where
  len_ : mg "len" = none
  sum_ : mg "sum" = none
  all_ : mg "all" = none
  any_ : mg "any" = none
  tuple_ : mg "tuple" = none
  list_ : mg "list" = none
  abs_ : mg "abs" = none
  int_ : mg "int" = none
  str_ : mg "str" = none
  bool_ : mg "bool" = none
  max_ : mg "max" = none
  min_ : mg "min" = none
  dict_ : mg "dict" = none
  range_ : mg "range" = none
  enumerate_ : mg "enumerate" = none
  zip_ : mg "zip" = none
  sorted_ : mg "sorted" = none
  isinstance : mg "isinstance" = none
/-! ### the head's own fact: ZERO -/
/-- a program without lambdas -/
def exL0 (ex : PySem.W.Frag → Bool) (K : PySem.W.Frag) : Bool := ex K && (lamDefs K).isEmpty
theorem exL0_ex {ex : PySem.W.Frag → Bool} {K : PySem.W.Frag} (h : exL0 ex K = true) : ex K = true := by
  unfold exL0 at h
  simp only [Bool.and_eq_true] at h
  exact h.1
theorem exL0_tabs {ex : PySem.W.Frag → Bool} {K : PySem.W.Frag} {H : Hp} (h : exL0 ex K = true) : TabsF (tabsOf K) H H := by
  unfold exL0 at h
  simp only [Bool.and_eq_true, List.isEmpty_iff] at h
  intro p hp
  unfold tabsOf at hp
  rw [h.2] at hp
  cases hp
theorem law_end {K : PySem.W.Frag} {H : Hp} {a : Addr} {ns : List Int} {Fs : List Dt → Res Dt} {E : XK} (h : Fs [.list (ns.map PyData.int)] = .ok (.bool true)) (tb : TabsF (tabsOf K) H H) (hS : SqL K H a (ns.map V.int)) : spP K 1 Fs [V.ref a] H (fun v _ => v = V.bl true) E := by
  refine ⟨H, [.list (ns.map PyData.int)], .refl _, tb, .cons (.lst hS (ints_dq ns)) .nil, rfl, ?_⟩
  rw [h]
  intro v F' H' _ hv
  cases hv
  rfl
end Sx

namespace Sx
open PySem PySem.Spec PyProof.Rows L2

def B_is_between : SS :=
    (sRet (eAnd (eUn (isiD "int") (eVar 0)) (eAnd (eNot (eUn (isiD "bool") (eVar 0))) (eChain leD leD (eVar 1) (eVar 0) (eVar 2)))))
def F_is_between := runP 3 B_is_between



def B_is_endless : SS :=
    (sRet (eAnd (eBin eqD (eBin ixD (eVar 0) (eC (.int 0))) (eC (.str "shares"))) (eBin ltD (eCB lenD (aCons (eBin ixD (eVar 0) (eC (.int 2))) aNil)) (eCB lenD (aCons (eBin ixD (eVar 0) (eC (.int 1))) aNil)))))
def F_is_endless := runP 1 B_is_endless

def B__law_town : SS :=
    (sRetL (lBin addL (eFrz (lLst (aCons (eC (.int 0)) aNil))) (eFrz (lCB listL (aCons (eVar 0) aNil)))))
def F__law_town := runL 1 B__law_town

def B__law_draw : SS :=
    (sSeq (sSetT 1 (eC (.int 0)) (eBin addD (eIxT 1 (eC (.int 0))) (eC (.int 1))))
    (sSeq (sIf (bOf (eBin eqD (eVar 0) (eFrz (lLst aNil)))) (sRet (eBin modD (eBin fdivD (eBin mulD (eBin mulD (eIxT 1 (eC (.int 0))) (eIxT 1 (eC (.int 0)))) (eC (.int 7))) (eC (.int 3))) (eVar 2))) sPass)
    (sSeq (sAsg 3 (eBin modD (eIxT 1 (eC (.int 0))) (eCB lenD (aCons (eVar 0) aNil))))
    (sSeq (sAsg 4 (eIxT 1 (eBin addD (eC (.int 1)) (eVar 3))))
    (sSeq (sIf (bAnd (bOf (eBin geD (eBin ixD (eVar 0) (eVar 3)) (eBin powD (eC (.int 10)) (eC (.int 18))))) (bOf (eBin gtD (eVar 4) (eC (.int 0))))) (sSeq (sSetT 1 (eBin addD (eC (.int 1)) (eVar 3)) (eBin fdivD (eVar 4) (eVar 2)))
    (sRet (eBin modD (eVar 4) (eVar 2)))) sPass)
    (sSeq (sAsg 5 (eBin modD (eBin addD (eBin ixD (eVar 0) (eVar 3)) (eBin mulD (eC (.int 104729)) (eIxT 1 (eC (.int 0))))) (eC (.int 4294967291))))
    (sSeq (sAsg 5 (eBin modD (eBin powD (eVar 5) (eC (.int 5))) (eC (.int 4294967279))))
    (sRet (eBin modD (eBin fdivD (eBin modD (eBin addD (eBin mulD (eBin fdivD (eVar 5) (eC (.int 64))) (eC (.int 69621))) (eVar 5)) (eC (.int 4294967231))) (eC (.int 8))) (eVar 2))))))))))
def F__law_draw := runT 6 B__law_draw





def lB_are_pairs_1 : SS :=
    (sSeq (sIf (bOr (bNot (bOf (eUn (isiD "tuple") (eVar 4)))) (bOr (bOf (eBin neD (eCB lenD (aCons (eVar 4) aNil)) (eC (.int 2)))) (bNot (bOf (eCall 3 F_is_between (aCons (eBin ixD (eVar 4) (eC (.int 0))) (aCons (eC (.int 0)) (aCons (eBin subD (eVar 0) (eC (.int 1))) aNil)))))))) (sRet (eC (.bool false))) sPass)
    (sIf (bNot (bOf (eCall 3 F_is_between (aCons (eBin ixD (eVar 4) (eC (.int 1))) (aCons (eC (.int 1)) (aCons (eVar 2) aNil)))))) (sRet (eC (.bool false))) sPass))
def cE_are_pairs_2 : SE :=
    (eBin ltD (eBin ixD (eBin ixD (eVar 1) (eVar 5)) (eC (.int 0))) (eBin ixD (eBin ixD (eVar 1) (eBin addD (eVar 5) (eC (.int 1)))) (eC (.int 0))))
def B_are_pairs : SS :=
    (sSeq (sIf (bOr (bNot (bOf (eUn (isiD "tuple") (eVar 1)))) (bOf (eBin ltD (eCB lenD (aCons (eVar 1) aNil)) (eVar 3)))) (sRet (eC (.bool false))) sPass)
    (sSeq (sFor (iSeq (eVar 1)) (gN 4) lB_are_pairs_1)
    (sRet (eCB allD (aCons (eFrz (lComp (iRng (aCons (eBin subD (eCB lenD (aCons (eVar 1) aNil)) (eC (.int 1))) aNil)) (gN 5) bYes cE_are_pairs_2 [5])) aNil)))))
def F_are_pairs := runP 6 B_are_pairs


def B__law_pick : SS :=
    (sRet (eBin ixD (eVar 2) (eCallT 1 F__law_draw (eVar 0) 1 (aCons (eCB lenD (aCons (eVar 2) aNil)) aNil))))
def F__law_pick := runT 3 B__law_pick








def cE_is_rung_1 : SE :=
    (eVar 3)
def cE_is_rung_2 : SE :=
    (eBin inD (eVar 3) (eVar 2))
def B_is_rung : SS :=
    (sSeq (sIf (bOr (bNot (bOf (eUn (isiD "tuple") (eVar 1)))) (bOr (bNot (bOf (eChain leD leD (eC (.int 2)) (eCB lenD (aCons (eVar 1) aNil)) (eC (.int 3))))) (bNot (bOf (eUn (isiD "str") (eBin ixD (eVar 1) (eC (.int 0)))))))) (sRet (eC (.bool false))) sPass)
    (sSeq (sIf (bOf (eBin eqD (eBin ixD (eVar 1) (eC (.int 0))) (eC (.str "fixed")))) (sRet (eAnd (eBin eqD (eCB lenD (aCons (eVar 1) aNil)) (eC (.int 2))) (eCall 4 F_are_pairs (aCons (eVar 0) (aCons (eBin ixD (eVar 1) (eC (.int 1))) (aCons (eC (.int 999)) (aCons (eC (.int 1)) aNil))))))) sPass)
    (sSeq (sIf (bOr (bOf (eBin neD (eBin ixD (eVar 1) (eC (.int 0))) (eC (.str "shares")))) (bOf (eBin neD (eCB lenD (aCons (eVar 1) aNil)) (eC (.int 3))))) (sRet (eC (.bool false))) sPass)
    (sSeq (sIf (bOr (bNot (bOf (eCall 4 F_are_pairs (aCons (eVar 0) (aCons (eBin ixD (eVar 1) (eC (.int 1))) (aCons (eC (.int 20)) (aCons (eC (.int 1)) aNil))))))) (bNot (bOf (eCall 4 F_are_pairs (aCons (eVar 0) (aCons (eBin ixD (eVar 1) (eC (.int 2))) (aCons (eC (.int 999)) (aCons (eC (.int 0)) aNil)))))))) (sRet (eC (.bool false))) sPass)
    (sSeq (sAsg 2 (eFrz (lComp (iSeq (eBin ixD (eVar 1) (eC (.int 1)))) (gTu 2 (gsCons (gN 3) (gsCons (gN 4) gsNil))) bYes cE_is_rung_1 [3, 4])))
    (sRet (eCB allD (aCons (eFrz (lComp (iSeq (eBin ixD (eVar 1) (eC (.int 2)))) (gTu 2 (gsCons (gN 3) (gsCons (gN 5) gsNil))) bYes cE_is_rung_2 [3, 5])) aNil))))))))
def F_is_rung := runP 6 B_is_rung



def cC__law_pairs_1 : SB :=
    (bOf (eBin eqD (eCallT 1 F__law_draw (eVar 0) 1 (aCons (eC (.int 2)) aNil)) (eC (.int 0))))
def cE__law_pairs_1 : SE :=
    (eVar 5)
def cE__law_pairs_2 : SE :=
    (eTup (aCons (eVar 5) (aCons (eCallT 1 F__law_pick (eVar 0) 1 (aCons (eVar 3) aNil)) aNil)))
def B__law_pairs : SS :=
    (sSeq (sAsg 4 (eFrz (lComp (iRng (aCons (eVar 2) aNil)) (gN 5) cC__law_pairs_1 cE__law_pairs_1 [5])))
    (sSeq (sIf (bOf (eBin eqD (eVar 4) (eFrz (lLst aNil)))) (sAsg 4 (eFrz (lLst (aCons (eCallT 1 F__law_draw (eVar 0) 1 (aCons (eVar 2) aNil)) aNil)))) sPass)
    (sRet (eCB tupleD (aCons (eFrz (lComp (iSeq (eVar 4)) (gN 5) bYes cE__law_pairs_2 [5])) aNil)))))
def F__law_pairs := runT 6 B__law_pairs




def cE_is_ladder_1 : SE :=
    (eCall 2 F_is_rung (aCons (eVar 1) (aCons (eVar 3) aNil)))
def B_is_ladder : SS :=
    (sSeq (sIf (bOr (bNot (bOf (eUn (isiD "tuple") (eVar 0)))) (bOr (bOf (eBin neD (eCB lenD (aCons (eVar 0) aNil)) (eC (.int 2)))) (bNot (bOf (eCall 3 F_is_between (aCons (eBin ixD (eVar 0) (eC (.int 0))) (aCons (eC (.int 1)) (aCons (eC (.int 5)) aNil)))))))) (sRet (eC (.bool false))) sPass)
    (sSeq (sAsgG (gTu 2 (gsCons (gN 1) (gsCons (gN 2) gsNil))) (eVar 0))
    (sSeq (sIf (bOr (bNot (bOf (eUn (isiD "tuple") (eVar 2)))) (bNot (bOf (eChain leD leD (eC (.int 1)) (eCB lenD (aCons (eVar 2) aNil)) (eC (.int 4)))))) (sRet (eC (.bool false))) sPass)
    (sRet (eAnd (eCB allD (aCons (eFrz (lComp (iSeq (eVar 2)) (gN 3) bYes cE_is_ladder_1 [3])) aNil)) (eCall 1 F_is_endless (aCons (eBin ixD (eVar 2) (eUn negD (eC (.int 1)))) aNil)))))))
def F_is_ladder := runP 4 B_is_ladder

def lB__law_rung_1 : SS :=
    (sIf (bAnd (bOf (eBin neD (eVar 7) (eVar 5))) (bOf (eBin gtD (eCallT 1 F__law_draw (eVar 0) 1 (aCons (eC (.int 4)) aNil)) (eC (.int 0))))) (sApp 6 (eTup (aCons (eVar 7) (aCons (eCallT 1 F__law_pick (eVar 0) 1 (aCons (eFrz (lLst (aCons (eC (.int 1)) (aCons (eC (.int 2)) (aCons (eC (.int 3)) (aCons (eC (.int 5)) (aCons (eC (.int 10)) (aCons (eC (.int 20)) (aCons (eBin mulD (eC (.int 5)) (eVar 8)) aNil))))))))) aNil)) aNil)))) sPass)
def B__law_rung : SS :=
    (sSeq (sIf (bOf (eBin eqD (eVar 3) (eC (.int 0)))) (sRet (eTup (aCons (eC (.str "fixed")) (aCons (eCallT 2 F__law_pairs (eVar 0) 1 (aCons (eVar 2) (aCons (eFrz (lLst (aCons (eC (.int 1)) (aCons (eC (.int 2)) (aCons (eC (.int 3)) (aCons (eC (.int 5)) (aCons (eC (.int 10)) (aCons (eC (.int 20)) (aCons (eC (.int 100)) (aCons (eC (.int 999)) aNil)))))))))) aNil))) aNil)))) sPass)
    (sSeq (sAsg 4 (eCallT 2 F__law_pairs (eVar 0) 1 (aCons (eVar 2) (aCons (eFrz (lLst (aCons (eC (.int 1)) (aCons (eC (.int 1)) (aCons (eC (.int 2)) (aCons (eC (.int 3)) (aCons (eC (.int 4)) (aCons (eC (.int 20)) aNil)))))))) aNil))))
    (sSeq (sAsg 5 (eIf (bOf (eBin eqD (eVar 3) (eC (.int 2)))) (eBin ixD (eCallT 1 F__law_pick (eVar 0) 1 (aCons (eVar 4) aNil)) (eC (.int 0))) (eUn negD (eC (.int 1)))))
    (sSeq (sOwn 6 (lLst aNil))
    (sSeq (sFor (iSeq (eVar 4)) (gTu 2 (gsCons (gN 7) (gsCons (gN 8) gsNil))) lB__law_rung_1)
    (sRet (eTup (aCons (eC (.str "shares")) (aCons (eVar 4) (aCons (eCB tupleD (aCons (eBor 6) aNil)) aNil))))))))))
def F__law_rung := runT 9 B__law_rung


def B_check_ladder : SS :=
    (sIf (bNot (bOf (eCall 1 F_is_ladder (aCons (eVar 0) aNil)))) sNever sPass)
def F_check_ladder := runP 1 B_check_ladder



def cE__law_ladder_1 : SE :=
    (eCallT 2 F__law_rung (eVar 0) 1 (aCons (eVar 3) (aCons (eCallT 1 F__law_draw (eVar 0) 1 (aCons (eC (.int 2)) aNil)) aNil)))
def B__law_ladder : SS :=
    (sSeq (sAsg 3 (eBin addD (eC (.int 1)) (eCallT 1 F__law_draw (eVar 0) 1 (aCons (eVar 2) aNil))))
    (sSeq (sAsg 4 (eFrz (lComp (iRng (aCons (eCallT 1 F__law_draw (eVar 0) 1 (aCons (eC (.int 4)) aNil)) aNil)) (gN 5) bYes cE__law_ladder_1 [5])))
    (sRet (eTup (aCons (eVar 3) (aCons (eBin addD (eCB tupleD (aCons (eVar 4) aNil)) (eTup (aCons (eCallT 2 F__law_rung (eVar 0) 1 (aCons (eVar 3) (aCons (eC (.int 2)) aNil))) aNil))) aNil))))))
def F__law_ladder := runT 6 B__law_ladder





























end Sx

namespace Sx
open PySem PySem.Spec PyProof.Rows L2
/-! ### evaluation of the semantic functions, for simp -/
section
variable {ρ : Sl} {W : Tw} {i n : Nat} {e e1 e2 a b c k : SE} {as f : SA} {x : Dt}
@[simp] theorem eVar_s : eVar i ρ W = (match ρ[i]? with | some (some (.d x)) => .ok (x, W) | _ => .bad) := rfl
@[simp] theorem eBor_s : eBor i ρ W = (match ρ[i]? with | some (some (.d x)) => .ok (x, W) | some (some (.own xs)) => .ok (.list xs, W) | _ => .bad) := rfl
@[simp] theorem eC_s : eC x ρ W = .ok (x, W) := rfl
@[simp] theorem eBin_s {g} : eBin g a b ρ W = (a ρ W).bind fun p => (b ρ p.2).bind fun q => ofO (g p.1 q.1) q.2 := rfl
@[simp] theorem eUn_s {g} : eUn g a ρ W = (a ρ W).bind fun p => ofO (g p.1) p.2 := rfl
@[simp] theorem aNil_s : aNil ρ W = .ok ([], W) := rfl
@[simp] theorem aCons_s : aCons e as ρ W = (e ρ W).bind fun p => (as ρ p.2).bind fun q => .ok (p.1 :: q.1, q.2) := rfl
@[simp] theorem eTup_s : eTup as ρ W = (as ρ W).bind fun p => if p.1.length ≤ 100000 then .ok (.tuple p.1, p.2) else .bad := rfl
@[simp] theorem lLst_s : lLst as ρ W = (as ρ W).bind fun p => if p.1.length ≤ 100000 then .ok p else .bad := rfl
@[simp] theorem eFrz_s : eFrz f ρ W = (f ρ W).bind fun p => .ok (.list p.1, p.2) := rfl
@[simp] theorem eCB_s {g} : eCB g as ρ W = (as ρ W).bind fun p => ofO (g p.1) p.2 := rfl
@[simp] theorem lCB_s {g} : lCB g as ρ W = (as ρ W).bind fun p => ofO (g p.1) p.2 := rfl
@[simp] theorem bOf_s : bOf e ρ W = (e ρ W).bind fun p => ofO (asB p.1) p.2 := rfl
@[simp] theorem bAnd_s {a b : SB} : bAnd a b ρ W = (a ρ W).bind fun p => if p.1 = true then b ρ p.2 else .ok (false, p.2) := rfl
@[simp] theorem bOr_s {a b : SB} : bOr a b ρ W = (a ρ W).bind fun p => if p.1 = true then .ok (true, p.2) else b ρ p.2 := rfl
@[simp] theorem bNot_s {a : SB} : bNot a ρ W = (a ρ W).bind fun p => .ok (!p.1, p.2) := rfl
@[simp] theorem eAnd_s : eAnd a b ρ W = (bOf a ρ W).bind fun p => if p.1 = true then b ρ p.2 else .ok (.bool false, p.2) := rfl
@[simp] theorem eNot_s : eNot a ρ W = (bOf a ρ W).bind fun p => .ok (.bool (!p.1), p.2) := rfl
@[simp] theorem eIf_s {c : SB} : eIf c a b ρ W = (c ρ W).bind fun p => if p.1 = true then a ρ p.2 else b ρ p.2 := rfl
@[simp] theorem eChain_s {g g'} : eChain g g' a b c ρ W = (a ρ W).bind fun p => (b ρ p.2).bind fun q => (ofO ((g p.1 q.1).bind asB) q.2).bind fun k =>
  if k.1 = true then (c ρ q.2).bind fun r => ofO (g' q.1 r.1) r.2 else .ok (.bool false, q.2) := rfl
@[simp] theorem ofO_some {α : Type} {a : α} : ofO (some a) W = .ok (a, W) := rfl
@[simp] theorem ofO_none {α : Type} : ofO (none : Option α) W = .bad := rfl
@[simp] theorem asB_bool {b : Bool} : asB (.bool b) = some b := rfl
@[simp] theorem eSlice_s {lo hi : SO} : eSlice e lo hi ρ W = (e ρ W).bind fun p => (lo ρ p.2).bind fun l => (hi ρ l.2).bind fun h => ofO (sliceD p.1 l.1 h.1) h.2 := rfl
@[simp] theorem oNone_s : oNone ρ W = .ok (none, W) := rfl
@[simp] theorem oSome_s : oSome e ρ W = (e ρ W).bind fun p => ofO ((asI p.1).map some) p.2 := rfl
@[simp] theorem asI_int {i : Int} : asI (.int i) = some i := rfl
@[simp] theorem lBin_s {g} : lBin g a b ρ W = (a ρ W).bind fun p => (b ρ p.2).bind fun q => ofO (g p.1 q.1) q.2 := rfl
@[simp] theorem eCall_s {Fs} : eCall n Fs as ρ W = (as ρ W).bind fun p => if p.1.length = n then resT (Fs p.1) p.2 else .bad := rfl
@[simp] theorem lCall_s {Fs} : lCall n Fs as ρ W = (as ρ W).bind fun p => if p.1.length = n then resT (Fs p.1) p.2 else .bad := rfl
@[simp] theorem resT_ok {α : Type} {r : α} : resT (.ok r) W = .ok (r, W) := rfl
@[simp] theorem twnT_ok {r : Dt × List Dt} : twnT (.ok r) = .ok (r.1, some r.2) := rfl
@[simp] theorem eCallT_s {Fs} : eCallT n Fs e i as ρ W = (e ρ W).bind fun p => match ρ[i]? with
  | some (some .town) => (as ρ p.2).bind fun q => match q.2 with
    | some ws => if q.1.length = n then twnT (Fs (p.1 :: q.1) ws) else .bad
    | none => .bad
  | _ => .bad := rfl
@[simp] theorem iSeq_s : iSeq e ρ W = (e ρ W).bind fun p => ofO (seqOf p.1) p.2 := rfl
@[simp] theorem seqOf_list {ds} : seqOf (.list ds) = some ds := rfl
@[simp] theorem seqOf_tuple {ds} : seqOf (.tuple ds) = some ds := rfl
@[simp] theorem iRng_s : iRng as ρ W = (as ρ W).bind fun p => ofO (rngOf p.1) p.2 := rfl
@[simp] theorem gN_s {d : Dt} : gN i d ρ = if i < ρ.length then some (ρ.set i (some (.d d))) else none := rfl
@[simp] theorem gsNil_s : gsNil [] ρ = some ρ := rfl
@[simp] theorem gsCons_s {g : SG} {gs : SGs} {d : Dt} {ds} : gsCons g gs (d :: ds) ρ = (g d ρ).bind (gs ds) := rfl
@[simp] theorem gTu_s {gs : SGs} {ds : List Dt} : gTu n gs (.tuple ds) ρ = if ds.length = n then gs ds ρ else none := rfl
@[simp] theorem lComp_s {it : SA} {g : SG} {c : SB} {vs} : lComp it g c e vs ρ W = (it ρ W).bind fun p => if p.1.length ≤ 100000 ∧ wipeOk ρ vs = true then cL g c e (wipeS ρ vs) p.1 p.2 else .bad := rfl
@[simp] theorem bYes_s : bYes ρ W = .ok (true, W) := rfl
@[simp] theorem cL_nil {g : SG} {c : SB} : cL g c e ρ [] W = .ok ([], W) := rfl
@[simp] theorem wipeS_nil : wipeS ρ [] = ρ := rfl
@[simp] theorem wipeS_cons {v vs} : wipeS ρ (v :: vs) = (wipeS ρ vs).set v none := rfl
@[simp] theorem sPass_s : sPass ρ W = .nx ρ W := rfl
@[simp] theorem sSeq_s {a b : SS} : sSeq a b ρ W = (match a ρ W with | .nx ρ1 W1 => b ρ1 W1 | r => r) := rfl
@[simp] theorem sExpr_s : sExpr e ρ W = rOut (e ρ W) fun _ W1 => .nx ρ W1 := rfl
@[simp] theorem sRet_s : sRet e ρ W = rOut (e ρ W) fun d W1 => .rt (.d d) W1 := rfl
@[simp] theorem sRetL_s : sRetL f ρ W = rOut (f ρ W) fun ds W1 => .rt (.own ds) W1 := rfl
@[simp] theorem sAsg_s : sAsg i e ρ W = rOut (e ρ W) fun d W1 => if i < ρ.length then .nx (ρ.set i (some (.d d))) W1 else .bad := rfl
@[simp] theorem sAsgG_s {g : SG} : sAsgG g e ρ W = rOut (e ρ W) fun d W1 => match g d ρ with | some ρ' => .nx ρ' W1 | none => .bad := rfl
@[simp] theorem sOwn_s : sOwn i f ρ W = rOut (f ρ W) fun ds W1 => if i < ρ.length then .nx (ρ.set i (some (.own ds))) W1 else .bad := rfl
@[simp] theorem sTown_s : sTown i f ρ W = rOut (f ρ W) fun ds W1 => if i < ρ.length ∧ W1 = none then .nx (ρ.set i (some .town)) (some ds) else .bad := rfl
@[simp] theorem sIf_s {c : SB} {a b : SS} : sIf c a b ρ W = rOut (c ρ W) fun k W1 => if k = true then a ρ W1 else b ρ W1 := rfl
@[simp] theorem sFor_s {it : SA} {g : SG} {body : SS} : sFor it g body ρ W = rOut (it ρ W) fun ds W1 => fL g body ds ρ W1 := rfl
@[simp] theorem fL_nil {g : SG} {body : SS} : fL g body [] ρ W = .nx ρ W := rfl
@[simp] theorem fL_cons {g : SG} {body : SS} {d ds} : fL g body (d :: ds) ρ W = (match g d ρ with | none => .bad | some ρ1 => match body ρ1 W with | .nx ρ2 W2 => fL g body ds ρ2 W2 | r => r) := rfl
@[simp] theorem sApp_s : sApp i e ρ W = (match ρ[i]? with | some (some (.own xs)) => rOut (e ρ W) fun d W1 => if xs.length < 100000 then .nx (ρ.set i (some (.own (xs ++ [d])))) W1 else .bad | _ => .bad) := rfl
@[simp] theorem sSetT_s : sSetT i k e ρ W = (match ρ[i]? with | some (some .town) => rOut (e ρ W) fun d W1 => rOut (k ρ W1) fun kd W2 => (match W2 with | some ws => nxT (setD ws kd d) ρ | none => .bad) | _ => .bad) := rfl
@[simp] theorem nxO_some {ys} : nxO i (some ys) ρ W = .nx (ρ.set i (some (.own ys))) W := rfl
@[simp] theorem nxT_some {ys} : nxT (some ys) ρ = .nx ρ (some ys) := rfl
@[simp] theorem eIxT_s : eIxT i k ρ W = (match ρ[i]? with | some (some .town) => (k ρ W).bind fun p => (match p.2 with | some ws => ofO (ixD (.list ws) p.1) p.2 | none => .bad) | _ => .bad) := rfl
@[simp] theorem mNil_s : mNil ρ W = .ok ([], W) := rfl
@[simp] theorem mD_s {m : SM} : mD e m ρ W = (e ρ W).bind fun p => (m ρ p.2).bind fun q => .ok (.d p.1 :: q.1, q.2) := rfl
@[simp] theorem setM_nil : setM [] [] ρ = some ρ := rfl
@[simp] theorem setM_cons {is sv svs} : setM (i :: is) (sv :: svs) ρ = if i < ρ.length then setM is svs (ρ.set i (some sv)) else none := rfl
@[simp] theorem sPar_s {is} {m : SM} : sPar is m ρ W = rOut (m ρ W) fun svs W1 => match setM is svs ρ with | some ρ' => .nx ρ' W1 | none => .bad := rfl
@[simp] theorem frzS_s : frzS i ρ = (match ρ[i]? with | some (some (.own xs)) => ρ.set i (some (.d (.list xs))) | _ => ρ) := rfl
@[simp] theorem runP_s {m : Nat} {B : SS} {ds : List Dt} : runP m B ds = (match B (start0 m ds) none with | .rt (.d x) _ => .ok x | .nx _ _ => .ok .none | .exc c => .exc c | _ => .bad) := rfl
@[simp] theorem runT_s {m : Nat} {B : SS} {ds ws : List Dt} : runT m B ds ws = (match B (startT m ds) (some ws) with | .rt (.d x) (some ws') => .ok (x, ws') | .nx _ (some ws') => .ok (.none, ws') | .exc c => .exc c | _ => .bad) := rfl
@[simp] theorem runL_s {m : Nat} {B : SS} {ds : List Dt} : runL m B ds = (match B (start0 m ds) none with | .rt (.own x) _ => .ok x | .exc c => .exc c | _ => .bad) := rfl
@[simp] theorem addD_i {a b : Int} : addD (.int a) (.int b) = some (.int (a + b)) := rfl
@[simp] theorem subD_i {a b : Int} : subD (.int a) (.int b) = some (.int (a - b)) := rfl
@[simp] theorem mulD_i {a b : Int} : mulD (.int a) (.int b) = if mulOk a b then some (.int (a * b)) else none := rfl
@[simp] theorem fdivD_i {a b : Int} : fdivD (.int a) (.int b) = if 0 < b ∧ b.natAbs.log2 < 9000 then some (.int (a / b)) else none := rfl
@[simp] theorem modD_i {a b : Int} : modD (.int a) (.int b) = if 0 < b then some (.int (a % b)) else none := rfl
@[simp] theorem negD_i {a : Int} : negD (.int a) = some (.int (-a)) := rfl
@[simp] theorem cmpD_i {p} {a b : Int} : cmpD p (.int a) (.int b) = some (.bool (p a b)) := rfl
@[simp] theorem ixD_t {ds : List Dt} {i : Int} : ixD (.tuple ds) (.int i) = atI ds i := rfl
@[simp] theorem ixD_l {ds : List Dt} {i : Int} : ixD (.list ds) (.int i) = atI ds i := rfl
@[simp] theorem atI_0 {α : Type} {x : α} {xs : List α} : atI (x :: xs) 0 = some x := by
  unfold atI ixN
  rw [if_pos (by omega), if_pos (by simp only [List.length_cons]; omega)]
  rfl
@[simp] theorem atI_1 {α : Type} {x y : α} {xs : List α} : atI (x :: y :: xs) 1 = some y := by
  unfold atI ixN
  rw [if_pos (by omega), if_pos (by simp only [List.length_cons]; omega)]
  rfl
@[simp] theorem atI_2 {α : Type} {x y z : α} {xs : List α} : atI (x :: y :: z :: xs) 2 = some z := by
  unfold atI ixN
  rw [if_pos (by omega), if_pos (by simp only [List.length_cons]; omega)]
  rfl
theorem atI_nat {α : Type} {xs : List α} {n : Nat} (h : n < xs.length) : atI xs (n : Int) = xs[n]? := by
  unfold atI ixN
  rw [if_pos (by omega), if_pos (by omega)]
  rfl
/-- the last item -/
theorem atI_last {α : Type} {xs : List α} {x : α} : atI (xs ++ [x]) (-1) = some x := by
  unfold atI ixN
  rw [if_neg (by omega), if_pos (by simp only [List.length_append, List.length_cons, List.length_nil]; omega)]
  have : ((-1 : Int) + ((xs ++ [x]).length : Int)).toNat = xs.length := by simp only [List.length_append, List.length_cons, List.length_nil]; omega
  rw [this]
  simp
@[simp] theorem absD_i {a : Int} : absD [.int a] = some (.int a.natAbs) := by
  show some (PyData.int (if a < 0 then -a else a)) = _
  congr 2
  split <;> omega
@[simp] theorem start0_s {m : Nat} {ds : List Dt} : start0 m ds = ds.map (fun x => some (.d x)) ++ List.replicate (m - ds.length) none := rfl
@[simp] theorem startT_s {m : Nat} {d : Dt} {ds : List Dt} : startT m (d :: ds) = some (.d d) :: some .town :: (ds.map (fun x => some (.d x)) ++ List.replicate (m - (ds.length + 2)) none) := rfl
end
end Sx

namespace Sx
open PySem PySem.Spec PyProof.Rows L2
/-! ### numbers -/
theorem log2_le {n k : Nat} (h : n < 2 ^ k) : n.log2 ≤ k := by
  by_cases h0 : n = 0
  · subst h0; exact Nat.le_trans (by decide) (Nat.zero_le k)
  · exact Nat.le_of_lt ((Nat.log2_lt h0).mpr h)
theorem mulOk_of {a b : Int} {j k : Nat} (ha : a.natAbs < 2 ^ j) (hb : b.natAbs < 2 ^ k) (h : j + k < 1000000) : mulOk a b = true := by
  unfold mulOk
  have := log2_le ha
  have := log2_le hb
  exact decide_eq_true (by omega)
@[simp] theorem shaped_int {i : Int} : SeqAt.shaped (.int i) = true := by rfl
@[simp] theorem shaped_none : SeqAt.shaped .none = true := by rfl
@[simp] theorem eqD_i {a b : Int} : eqD (.int a) (.int b) = some (.bool (a == b)) := by
  unfold eqD; rw [shaped_int, shaped_int]; rfl
@[simp] theorem neD_i {a b : Int} : neD (.int a) (.int b) = some (.bool (!(a == b))) := by
  unfold neD; rw [shaped_int, shaped_int]; rfl
/-! fractions -/
def fr (q : Rat) : Dt := .tuple [.int q.num, .int q.den]
theorem mul_lt_pow {a b j k : Nat} (ha : a < 2 ^ j) (hb : b < 2 ^ k) : a * b < 2 ^ (j + k) := by
  rw [Nat.pow_add]
  exact Nat.mul_lt_mul'' ha hb
end Sx

namespace Sx
open PySem PySem.Spec PyProof.Rows L2
/-! the law's own -/
abbrev hB : SB := bOf (eBin gtD (eVar 3) (eC (.int 0)))
abbrev hS : SS := sPar [2, 3] (mD (eVar 3) (mD (eBin modD (eVar 2) (eVar 3)) mNil))
end Sx

/-! plain mathematics: pieces of rungs, levels that shares fill -/
namespace Mx
def lk {β : Type} : List (Nat × β) → Nat → Option β
  | [], _ => none
  | (k, v) :: r, h => if k = h then some v else lk r h
section
variable {β : Type}
theorem lk_mem : ∀ {A : List (Nat × β)} {h : Nat} {v : β}, lk A h = some v → (h, v) ∈ A
  | [], _, _, e => by cases e
  | (k, u) :: r, h, v, e => by
    unfold lk at e
    split at e
    · rename_i hk; cases e; subst hk; exact List.mem_cons_self ..
    · exact List.mem_cons_of_mem _ (lk_mem e)
theorem lk_none : ∀ {A : List (Nat × β)} {h : Nat}, lk A h = none ↔ ∀ p ∈ A, p.1 ≠ h
  | [], _ => by simp [lk]
  | (k, u) :: r, h => by
    unfold lk
    by_cases hk : k = h
    · simp [hk]
    · rw [if_neg hk, lk_none]; simp [hk]
end
/-! sums -/
def sm (A : List (Nat × Nat)) (f : Nat → Rat) : Rat := (A.map fun p => f p.1).sum
def wsum (A : List (Nat × Nat)) : Nat := (A.map (·.2)).sum
/-! rates, levels, pieces -/
def rt (A : List (Nat × Nat)) (W : Rat) (h : Nat) : Rat := match lk A h with
  | some w => (w : Rat) / W
  | none => 0
abbrev Pc := Option Rat × (Nat → Rat)
theorem div_pos {a b : Rat} (ha : 0 < a) (hb : 0 < b) : 0 < a / b := by
  rw [Rat.div_def]; exact Rat.mul_pos ha (Rat.inv_pos.mpr hb)
section step
variable {A : List (Nat × Nat)} {L : List (Nat × Rat)} {l : Rat}
end step
end Mx

/-! plain mathematics: rungs, ladders, bends -/
namespace Mx
inductive Rung where
  | fixed (s : List (Nat × Nat))
  | shares (w c : List (Nat × Nat))
def Rung.A : Rung → List (Nat × Nat)
  | .fixed s => s
  | .shares w _ => w
def Rung.C : Rung → List (Nat × Nat)
  | .fixed s => s
  | .shares _ c => c
def Rung.endless : Rung → Bool
  | .fixed _ => false
  | .shares w c => decide (c.length < w.length)
structure POk (n m : Nat) (ps : List (Nat × Nat)) : Prop where
  el : ∀ p ∈ ps, p.1 < n ∧ 1 ≤ p.2 ∧ p.2 ≤ m
  inc : ps.Pairwise (fun a b => a.1 < b.1)
def Rung.Ok (n : Nat) : Rung → Prop
  | .fixed s => s ≠ [] ∧ POk n 999 s
  | .shares w c => w ≠ [] ∧ POk n 20 w ∧ POk n 999 c ∧ ∀ p ∈ c, ∃ q ∈ w, q.1 = p.1
theorem nodup_le : ∀ {l m : List Nat}, l.Nodup → (∀ a ∈ l, a ∈ m) → l.length ≤ m.length
  | [], _, _, _ => Nat.zero_le _
  | a :: l, m, hn, h => by
    have hn' := List.nodup_cons.mp hn
    have hm := h a (by simp)
    have := nodup_le (l := l) (m := m.erase a) hn'.2 fun b hb => (List.mem_erase_of_ne (fun e => hn'.1 (by rw [← e]; exact hb))).mpr (h b (List.mem_cons_of_mem _ hb))
    rw [List.length_erase_of_mem hm] at this
    have : 0 < m.length := List.length_pos_of_mem hm
    rw [List.length_cons]
    omega
theorem POk.nodup {n m : Nat} {ps : List (Nat × Nat)} (h : POk n m ps) : (ps.map (·.1)).Nodup := by
  unfold List.Nodup
  rw [List.pairwise_map]
  exact h.inc.imp fun z => Nat.ne_of_lt z
theorem endless_iff {n : Nat} {w c : List (Nat × Nat)} (h : (Rung.shares w c).Ok n) : c.length < w.length ↔ ∃ p ∈ w, lk c p.1 = none := by
  obtain ⟨h1, h2, h3, h4⟩ := h
  constructor
  · intro hlt
    refine Classical.byContradiction fun hno => ?_
    have := nodup_le h2.nodup (m := c.map (·.1)) fun a ha => by
      obtain ⟨p, hp, rfl⟩ := List.mem_map.mp ha
      cases hc : lk c p.1 with
      | none => exact absurd ⟨p, hp, hc⟩ hno
      | some v => exact List.mem_map.mpr ⟨_, lk_mem hc, rfl⟩
    rw [List.length_map, List.length_map] at this
    omega
  · rintro ⟨p, hp, hc⟩
    rw [lk_none] at hc
    have := nodup_le h3.nodup (m := (w.map (·.1)).erase p.1) fun a ha => by
      obtain ⟨q, hq, rfl⟩ := List.mem_map.mp ha
      refine (List.mem_erase_of_ne (hc q hq)).mpr ?_
      obtain ⟨r, hr, e⟩ := h4 q hq
      exact List.mem_map.mpr ⟨r, hr, e⟩
    rw [List.length_erase_of_mem (List.mem_map.mpr ⟨p, hp, rfl⟩), List.length_map, List.length_map] at this
    have : 0 < w.length := List.length_pos_of_mem hp
    omega
/-! evaluation of pieces -/
section
variable {n : Nat} {ps qs : List Pc} {x y : Rat} {h : Nat}
end
/-! whole ladders -/
/-! bends -/
end Mx

/-! few bits: the numbers of a ladder's pieces -/
namespace Mx
/-! a number with a denominator of at most 20 -/
theorem pok_len {n m : Nat} {ps : List (Nat × Nat)} (h : POk n m ps) : ps.length ≤ n := by
  have := nodup_le h.nodup (m := List.range n) fun a ha => by
    obtain ⟨p, hp, rfl⟩ := List.mem_map.mp ha
    exact List.mem_range.mpr (h.el p hp).1
  rw [List.length_map, List.length_range] at this
  exact this
/-- ladders -/
structure Lad where
  n : Nat
  rs : List Rung
structure Lad.Ok (l : Lad) : Prop where
  n1 : 1 ≤ l.n
  n5 : l.n ≤ 5
  r1 : l.rs ≠ []
  r4 : l.rs.length ≤ 4
  ok : ∀ r ∈ l.rs, r.Ok l.n
  en : ∃ r, l.rs.getLast? = some r ∧ r.endless = true
end Mx

namespace Sx
open PySem PySem.Spec PyProof.Rows L2 Mx
/-! ### loops and comprehensions over typed lists -/
theorem cL_ty {α : Type} {g : SG} {c : SB} {e : SE} {ρ0 : Sl} {W : Tw} (enc : α → Dt) (b : α → Bool) (v : α → Dt) : ∀ (xs : List α),
    (∀ x ∈ xs, ∃ ρ1, g (enc x) ρ0 = some ρ1 ∧ c ρ1 W = .ok (b x, W) ∧ (b x = true → e ρ1 W = .ok (v x, W))) → cL g c e ρ0 (xs.map enc) W = .ok ((xs.filter b).map v, W)
  | [], _ => rfl
  | x :: xs, h => by
    obtain ⟨ρ1, h1, h2, h3⟩ := h x (by simp)
    have ih := cL_ty enc b v xs fun y hy => h y (List.mem_cons_of_mem _ hy)
    rw [List.map_cons]
    unfold cL
    simp only [h1, h2, nox_ok, Res.bind_ok]
    cases hb : b x with
    | true =>
      simp only [if_true, h3 hb, nox_ok, Res.bind_ok, ih]
      rw [List.filter_cons_of_pos hb, List.map_cons]
    | false =>
      simp only [Bool.false_eq_true, if_false, ih]
      rw [List.filter_cons_of_neg (by simp [hb])]
theorem cL_map {α : Type} {g : SG} {e : SE} {ρ0 : Sl} {W : Tw} (enc : α → Dt) (v : α → Dt) (xs : List α)
    (h : ∀ x ∈ xs, ∃ ρ1, g (enc x) ρ0 = some ρ1 ∧ e ρ1 W = .ok (v x, W)) : cL g bYes e ρ0 (xs.map enc) W = .ok (xs.map v, W) := by
  have := cL_ty (c := bYes) enc (fun _ => true) v xs fun x hx => by
    obtain ⟨ρ1, h1, h2⟩ := h x hx
    exact ⟨ρ1, h1, rfl, fun _ => h2⟩
  rw [this, List.filter_eq_self.mpr fun _ _ => rfl]
/-! ### how a ladder is written -/
def pr (p : Nat × Nat) : Dt := .tuple [.int p.1, .int p.2]
def prs (ps : List (Nat × Nat)) : Dt := .tuple (ps.map pr)
def rd : Rung → Dt
  | .fixed s => .tuple [.str "fixed", prs s]
  | .shares w c => .tuple [.str "shares", prs w, prs c]
def ld (l : Lad) : Dt := .tuple [.int l.n, .tuple (l.rs.map rd)]
@[simp] theorem lenD_t {ds : List Dt} : lenD [.tuple ds] = some (.int ds.length) := rfl
@[simp] theorem lenD_l {ds : List Dt} : lenD [.list ds] = some (.int ds.length) := rfl
@[simp] theorem tupleD_l {ds : List Dt} : tupleD [.list ds] = some (.tuple ds) := rfl
@[simp] theorem tupleD_t {ds : List Dt} : tupleD [.tuple ds] = some (.tuple ds) := rfl
@[simp] theorem listL_l {ds : List Dt} : listL [.list ds] = some ds := rfl
@[simp] theorem listL_t {ds : List Dt} : listL [.tuple ds] = some ds := rfl
theorem blsOf_map : ∀ (ns : List Bool), blsOf (ns.map PyData.bool) = some ns
  | [] => rfl
  | n :: ns => by
    rw [List.map_cons]
    show (blsOf (ns.map PyData.bool)).map (n :: ·) = _
    rw [blsOf_map ns]; rfl
theorem allD_map {α : Type} (f : α → Bool) (xs : List α) : allD [.list (xs.map fun x => PyData.bool (f x))] = some (.bool (xs.all f)) := by
  have := blsOf_map (xs.map f)
  rw [List.map_map] at this
  show (blsOf (xs.map fun x => PyData.bool (f x))).map _ = _
  rw [show (xs.map fun x => PyData.bool (f x)) = xs.map (PyData.bool ∘ f) from rfl, this]
  show some (PyData.bool ((xs.map f).all id)) = _
  rw [List.all_map]
  rfl
@[simp] theorem isi_int_int {i : Int} : isiD "int" (.int i) = some (.bool true) := by rfl
@[simp] theorem isi_int_bool {i : Int} : isiD "bool" (.int i) = some (.bool false) := by rfl
@[simp] theorem isi_tup {ds : List Dt} : isiD "tuple" (.tuple ds) = some (.bool true) := by rfl
@[simp] theorem isi_str {z : Str} : isiD "str" (.str z) = some (.bool true) := by rfl
theorem is_between_ok {v lo hi : Int} : F_is_between [.int v, .int lo, .int hi] = .ok (.bool (decide (lo ≤ v) && decide (v ≤ hi))) := by
  unfold F_is_between
  simp only [B_is_between]
  simp
  by_cases h : lo ≤ v <;> simp [h]
theorem eqD_str {a b : Str} {k : Bool} (ha : SeqAt.shaped (.str a) = true) (hb : SeqAt.shaped (.str b) = true) (hk : (a == b) = k) : eqD (.str a) (.str b) = some (.bool k) := by
  unfold eqD; rw [ha, hb, ← hk]; rfl
theorem neD_str {a b : Str} {k : Bool} (ha : SeqAt.shaped (.str a) = true) (hb : SeqAt.shaped (.str b) = true) (hk : (a == b) = k) : neD (.str a) (.str b) = some (.bool (!k)) := by
  unfold neD; rw [ha, hb, ← hk]; rfl
@[simp] theorem eq_fixed : eqD (.str "fixed") (.str "fixed") = some (.bool true) := eqD_str (by decide +kernel) (by decide +kernel) (by decide +kernel)
@[simp] theorem eq_sf : eqD (.str "shares") (.str "fixed") = some (.bool false) := eqD_str (by decide +kernel) (by decide +kernel) (by decide +kernel)
@[simp] theorem eq_fs : eqD (.str "fixed") (.str "shares") = some (.bool false) := eqD_str (by decide +kernel) (by decide +kernel) (by decide +kernel)
@[simp] theorem eq_shares : eqD (.str "shares") (.str "shares") = some (.bool true) := eqD_str (by decide +kernel) (by decide +kernel) (by decide +kernel)
@[simp] theorem ne_shares : neD (.str "shares") (.str "shares") = some (.bool false) := neD_str (k := true) (by decide +kernel) (by decide +kernel) (by decide +kernel)
@[simp] theorem ne_fs : neD (.str "fixed") (.str "shares") = some (.bool true) := neD_str (k := false) (by decide +kernel) (by decide +kernel) (by decide +kernel)
theorem is_endless_ok (r : Rung) : F_is_endless [rd r] = .ok (.bool r.endless) := by
  unfold F_is_endless
  simp only [B_is_endless]
  cases r with
  | fixed s => simp [rd, Rung.endless]
  | shares w c => simp [rd, prs, Rung.endless]
end Sx

namespace Sx
open PySem PySem.Spec PyProof.Rows L2 Mx
theorem fL_ret {α : Type} {g : SG} {body : SS} {W : Tw} (enc : α → Dt) (q : α → Bool) (r : SV) (J : Sl → Prop) : ∀ (xs : List α) (ρ : Sl), J ρ →
    (∀ x ∈ xs, ∀ ρ, J ρ → ∃ ρ1, g (enc x) ρ = some ρ1 ∧ (q x = true → ∃ ρ2, body ρ1 W = .nx ρ2 W ∧ J ρ2) ∧ (q x = false → body ρ1 W = .rt r W)) →
    (xs.all q = true → ∃ ρ', fL g body (xs.map enc) ρ W = .nx ρ' W ∧ J ρ') ∧ (xs.all q = false → fL g body (xs.map enc) ρ W = .rt r W)
  | [], ρ, j, _ => ⟨fun _ => ⟨ρ, rfl, j⟩, fun h => by cases h⟩
  | x :: xs, ρ, j, h => by
    obtain ⟨ρ1, h1, h2, h3⟩ := h x (by simp) ρ j
    rw [List.map_cons, List.all_cons]
    have e : fL g body (enc x :: xs.map enc) ρ W = (match body ρ1 W with | .nx ρ2 W2 => fL g body (xs.map enc) ρ2 W2 | r => r) := by
      show (match g (enc x) ρ with | none => Out.bad | some ρ1 => match body ρ1 W with | .nx ρ2 W2 => fL g body (xs.map enc) ρ2 W2 | r => r) = _
      rw [h1]
    rw [e]
    cases hq : q x with
    | false => rw [h3 hq]; exact ⟨fun z => by simp at z, fun _ => rfl⟩
    | true =>
      obtain ⟨ρ2, h4, h5⟩ := h2 hq
      rw [h4]
      simp only [Bool.true_and]
      exact fL_ret enc q r J xs ρ2 h5 fun y hy => h y (List.mem_cons_of_mem _ hy)
def pairB (n m : Nat) (p : Nat × Nat) : Bool := decide (p.1 < n) && (decide (1 ≤ p.2) && decide (p.2 ≤ m))
def incB (ps : List (Nat × Nat)) : Bool := (List.range (ps.length - 1)).all fun k => decide ((ps.getD k (0, 0)).1 < (ps.getD (k + 1) (0, 0)).1)
theorem incB_iff : ∀ ps : List (Nat × Nat), incB ps = true ↔ ps.Pairwise (fun a b => a.1 < b.1)
  | [] => by simp [incB]
  | [p] => by simp [incB]
  | p :: q :: ps => by
    have ih := incB_iff (q :: ps)
    have e : incB (p :: q :: ps) = (decide (p.1 < q.1) && incB (q :: ps)) := by
      unfold incB
      show (List.range (ps.length + 1)).all _ = _
      rw [List.range_succ_eq_map, List.all_cons, List.all_map]
      rfl
    rw [e, Bool.and_eq_true, decide_eq_true_eq, ih]
    rw [List.pairwise_cons (a := p)]
    constructor
    · rintro ⟨h1, h2⟩
      refine ⟨fun b hb => ?_, h2⟩
      rcases List.mem_cons.mp hb with z | z
      · rw [z]; exact h1
      · exact Nat.lt_trans h1 ((List.pairwise_cons.mp h2).1 b z)
    · rintro ⟨h1, h2⟩
      exact ⟨h1 q (by simp), h2⟩
@[simp] theorem isi_prs {ps} : isiD "tuple" (prs ps) = some (.bool true) := by rfl
@[simp] theorem isi_pr {p} : isiD "tuple" (pr p) = some (.bool true) := by rfl
@[simp] theorem len_prs {ps : List (Nat × Nat)} : lenD [prs ps] = some (.int ps.length) := by
  show some (PyData.int ((ps.map pr).length : Int)) = _
  rw [List.length_map]
@[simp] theorem len_pr {p} : lenD [pr p] = some (.int 2) := by rfl
@[simp] theorem seq_prs {ps : List (Nat × Nat)} : seqOf (prs ps) = some (ps.map pr) := by rfl
@[simp] theorem ix_pr0 {p : Nat × Nat} : ixD (pr p) (.int 0) = some (.int p.1) := by rfl
@[simp] theorem ix_pr1 {p : Nat × Nat} : ixD (pr p) (.int 1) = some (.int p.2) := by rfl
@[simp] theorem gTu_pr {p : Nat × Nat} {gs : SGs} {ρ : Sl} : gTu 2 gs (pr p) ρ = gs [.int p.1, .int p.2] ρ := by rfl
@[simp] theorem list_prs {ps : List (Nat × Nat)} : listL [prs ps] = some (ps.map pr) := by rfl
theorem ix_prs {ps : List (Nat × Nat)} {i : Nat} (h : i < ps.length) : ixD (prs ps) (.int (i : Int)) = some (pr (ps.getD i (0, 0))) := by
  show atI (ps.map pr) (i : Int) = _
  rw [atI_nat (by simp; omega), List.getElem?_map, List.getD_eq_getElem?_getD, List.getElem?_eq_getElem (by omega)]; rfl
theorem rngOf_len {n : Nat} (h : n ≤ 1000) : rngOf [.int ((n : Int) - 1)] = some ((List.range (n - 1)).map fun (i : Nat) => PyData.int (i : Int)) := by
  show (if ((n : Int) - 1) ≤ 100000 ∧ -100000 ≤ ((n : Int) - 1) then some (rngD ((n : Int) - 1)) else none) = _
  rw [if_pos (by omega)]
  unfold rngD
  rw [show ((n : Int) - 1).toNat = n - 1 by omega]
theorem are_pairs_loop {n m : Nat} {x y : Option SV} (ps : List (Nat × Nat)) : (ps.all (pairB n m) = true → ∃ ρ', fL (gN 4) lB_are_pairs_1 (ps.map pr) [some (.d (.int n)), x, some (.d (.int m)), y, none, none] none = .nx ρ' none ∧ ∃ a, ρ' = [some (.d (.int n)), x, some (.d (.int m)), y, a, none]) ∧ (ps.all (pairB n m) = false → fL (gN 4) lB_are_pairs_1 (ps.map pr) [some (.d (.int n)), x, some (.d (.int m)), y, none, none] none = .rt (.d (.bool false)) none) := fL_ret (W := none) (g := gN 4) (body := lB_are_pairs_1) pr (pairB n m) (.d (.bool false))
    (fun ρ => ∃ a, ρ = [some (.d (.int n)), x, some (.d (.int m)), y, a, none]) ps [some (.d (.int n)), x, some (.d (.int m)), y, none, none] ⟨_, rfl⟩ (by
      rintro p hx ρ ⟨a, rfl⟩
      refine ⟨[some (.d (.int n)), x, some (.d (.int m)), y, some (.d (pr p)), none], by simp, fun hq => ⟨[some (.d (.int n)), x, some (.d (.int m)), y, some (.d (pr p)), none], ?_, ⟨_, rfl⟩⟩, fun hq => ?_⟩
      · unfold pairB at hq
        simp only [Bool.and_eq_true, decide_eq_true_eq] at hq
        simp [lB_are_pairs_1, is_between_ok, show (p.1 : Int) ≤ (n : Int) - 1 by omega, show (1 : Int) ≤ (p.2 : Int) by omega, show p.2 ≤ m by omega]
      · unfold pairB at hq
        by_cases h1 : p.1 < n
        · have h2 : ¬ (1 ≤ p.2 ∧ p.2 ≤ m) := fun z => by simp [h1, z.1, z.2] at hq
          simp [lB_are_pairs_1, is_between_ok, show (p.1 : Int) ≤ (n : Int) - 1 by omega]
          by_cases h3 : 1 ≤ p.2
          · simp [show (1 : Int) ≤ (p.2 : Int) by omega, show m < p.2 from Nat.lt_of_not_le fun z => h2 ⟨h3, z⟩]
          · simp [show ¬ (1 : Int) ≤ (p.2 : Int) by omega]
        · simp [lB_are_pairs_1, is_between_ok, show ¬ (p.1 : Int) ≤ (n : Int) - 1 by omega])
theorem are_pairs_comp {a b c d e : Option SV} (ps : List (Nat × Nat)) : cL (gN 5) bYes cE_are_pairs_2 [a, some (.d (prs ps)), b, c, d, none] ((List.range (ps.length - 1)).map fun (i : Nat) => PyData.int (i : Int)) none = .ok ((List.range (ps.length - 1)).map fun k => PyData.bool (decide ((ps.getD k (0, 0)).1 < (ps.getD (k + 1) (0, 0)).1)), none) := by
  refine cL_map (fun (i : Nat) => PyData.int (i : Int)) _ _ fun i hi => ⟨_, by simp; rfl, ?_⟩
  have hi := List.mem_range.mp hi
  have e1 := ix_prs (ps := ps) (i := i) (by omega)
  have e2 := ix_prs (ps := ps) (i := i + 1) (by omega)
  rw [Int.natCast_add] at e2
  simp only [cE_are_pairs_2]
  simp at e2
  simp [e1, e2]
theorem are_pairs_ok {n m k : Nat} (ps : List (Nat × Nat)) (hl : ps.length ≤ 1000) : F_are_pairs [.int n, prs ps, .int m, .int k] = .ok (.bool (!decide (ps.length < k) && (ps.all (pairB n m) && incB ps))) := by
  have hloop := are_pairs_loop (n := n) (m := m) (x := some (.d (prs ps))) (y := some (.d (.int k))) ps
  unfold F_are_pairs
  simp only [B_are_pairs]
  by_cases hk : ps.length < k
  · simp [hk]
  · cases hall : ps.all (pairB n m) with
    | false => simp [hk, hloop.2 hall]
    | true =>
      obtain ⟨ρ', h1, a, rfl⟩ := hloop.1 hall
      have e6 := allD_map (fun k => decide ((ps.getD k (0, 0)).1 < (ps.getD (k + 1) (0, 0)).1)) (List.range (ps.length - 1))
      have hc := are_pairs_comp (a := some (.d (.int n))) (b := some (.d (.int m))) (c := some (.d (.int k))) (d := a) (e := none) ps
      simp [hk, h1, rngOf_len hl, wipeOk, show ps.length - 1 ≤ 100000 by omega, hc, allD_map, incB]

theorem pokB_iff {n m : Nat} {ps : List (Nat × Nat)} : (ps.all (pairB n m) && incB ps) = true ↔ POk n m ps := by
  rw [Bool.and_eq_true, incB_iff, List.all_eq_true]
  constructor
  · rintro ⟨h1, h2⟩
    exact ⟨fun p hp => by have := h1 p hp; unfold pairB at this; simpa using this, h2⟩
  · rintro ⟨h1, h2⟩
    exact ⟨fun p hp => by have := h1 p hp; unfold pairB; simpa using this, h2⟩
/-! a rung -/
def rungB (n : Nat) : Rung → Bool
  | .fixed s => !decide (s.length < 1) && (s.all (pairB n 999) && incB s)
  | .shares w c => (!decide (w.length < 1) && (w.all (pairB n 20) && incB w)) && ((c.all (pairB n 999) && incB c) && c.all fun p => (w.map (·.1)).contains p.1)
theorem rungB_iff {n : Nat} {r : Rung} : rungB n r = true ↔ r.Ok n := by
  cases r with
  | fixed s =>
    unfold rungB Rung.Ok
    rw [Bool.and_eq_true, pokB_iff]
    cases s <;> simp
  | shares w c =>
    show ((!decide (w.length < 1) && (w.all (pairB n 20) && incB w)) && ((c.all (pairB n 999) && incB c) && c.all fun p => (w.map (·.1)).contains p.1)) = true ↔ w ≠ [] ∧ POk n 20 w ∧ POk n 999 c ∧ ∀ p ∈ c, ∃ q ∈ w, q.1 = p.1
    rw [Bool.and_eq_true (!decide (w.length < 1) && (w.all (pairB n 20) && incB w)), Bool.and_eq_true (!decide (w.length < 1)), Bool.and_eq_true (c.all (pairB n 999) && incB c), pokB_iff, pokB_iff]
    have : (c.all fun p => (w.map (·.1)).contains p.1) = true ↔ ∀ p ∈ c, ∃ q ∈ w, q.1 = p.1 := by
      rw [List.all_eq_true]
      constructor
      · intro h p hp
        have := h p hp
        rw [List.contains_iff_mem, List.mem_map] at this
        exact this
      · intro h p hp
        rw [List.contains_iff_mem, List.mem_map]
        exact h p hp
    rw [this]
    cases w <;> simp [and_assoc]
theorem inB_map {k : Nat} : ∀ (ks : List Nat), inB (.int (k : Int)) (ks.map fun (j : Nat) => PyData.int (j : Int)) = ks.contains k
  | [] => rfl
  | j :: ks => by
    rw [List.map_cons]
    unfold inB
    rw [List.any_cons]
    have ih := inB_map (k := k) ks
    unfold inB at ih
    rw [ih, List.contains_cons]
    congr 1
    show (((j : Nat) : Int) == (k : Int)) = (k == j)
    rw [Bool.eq_iff_iff]
    simp
    omega
theorem shaped_ints : ∀ (ks : List Nat), SeqAt.shaped (.list (ks.map fun (j : Nat) => PyData.int (j : Int))) = true := by
  intro ks
  have h1 : ∀ ks : List Nat, PyData.canLayAll0 (ks.map fun (j : Nat) => PyData.int (j : Int)) = true := by
    intro ks
    induction ks with
    | nil => rfl
    | cons k ks ih => rw [List.map_cons]; exact ih
  have h2 : ∀ ks : List Nat, PyData.depthAll (ks.map fun (j : Nat) => PyData.int (j : Int)) = 0 := by
    intro ks
    induction ks with
    | nil => rfl
    | cons k ks ih => rw [List.map_cons]; show max 0 (PyData.depthAll _) = 0; rw [ih]; rfl
  have e : SeqAt.shaped (.list (ks.map fun (j : Nat) => PyData.int (j : Int))) = (PyData.canLayAll0 (ks.map fun (j : Nat) => PyData.int (j : Int)) && decide (PyData.depthAll (ks.map fun (j : Nat) => PyData.int (j : Int)) + 1 ≤ 64)) := rfl
  rw [e, h1, h2]
  rfl
theorem inD_ints {k : Nat} {ks : List Nat} : inD (.int (k : Int)) (.list (ks.map fun (j : Nat) => PyData.int (j : Int))) = some (.bool (ks.contains k)) := by
  show (if SeqAt.shaped (.int (k : Int)) && SeqAt.shaped (.list (ks.map fun (j : Nat) => PyData.int (j : Int))) then some (PyData.bool (inB (.int (k : Int)) (ks.map fun (j : Nat) => PyData.int (j : Int)))) else none) = _
  rw [shaped_ints, inB_map]
  rfl
theorem is_rung_ok {n : Nat} {r : Rung} (hl : r.A.length ≤ 1000 ∧ r.C.length ≤ 1000) : F_is_rung [.int n, rd r] = .ok (.bool (rungB n r)) := by
  unfold F_is_rung
  simp only [B_is_rung]
  cases r with
  | fixed s =>
    have h : F_are_pairs [.int n, prs s, .int 999, .int 1] = .ok (.bool (!decide (s.length < 1) && (s.all (pairB n 999) && incB s))) := are_pairs_ok (n := n) (m := 999) (k := 1) s hl.1
    show _ = Res.ok (PyData.bool (!decide (s.length < 1) && (s.all (pairB n 999) && incB s)))
    generalize (!decide (s.length < 1) && (s.all (pairB n 999) && incB s)) = bs at h ⊢
    simp [rd, h]
  | shares w c =>
    have hl1 : w.length ≤ 1000 := hl.1
    have hl2 : c.length ≤ 1000 := hl.2
    have h1 : F_are_pairs [.int n, prs w, .int 20, .int 1] = .ok (.bool (!decide (w.length < 1) && (w.all (pairB n 20) && incB w))) := are_pairs_ok (n := n) (m := 20) (k := 1) w hl.1
    have h2 : F_are_pairs [.int n, prs c, .int 999, .int 0] = .ok (.bool (!decide (c.length < 0) && (c.all (pairB n 999) && incB c))) := are_pairs_ok (n := n) (m := 999) (k := 0) c hl.2
    rw [show (!decide (c.length < 0)) = true by simp, Bool.true_and] at h2
    have hr : rungB n (.shares w c) = ((!decide (w.length < 1) && (w.all (pairB n 20) && incB w)) && ((c.all (pairB n 999) && incB c) && c.all fun p => (w.map (·.1)).contains p.1)) := rfl
    rw [hr]
    generalize (!decide (w.length < 1) && (w.all (pairB n 20) && incB w)) = bw at h1 ⊢
    generalize (c.all (pairB n 999) && incB c) = bc at h2 ⊢
    have hc1 : cL (gTu 2 (gsCons (gN 3) (gsCons (gN 4) gsNil))) bYes cE_is_rung_1 [some (.d (.int n)), some (.d (rd (.shares w c))), none, none, none, none] (w.map pr) none = .ok (w.map (fun p => PyData.int (p.1 : Int)), none) := by
      refine cL_map pr _ _ fun p hp => ⟨_, by simp; rfl, ?_⟩
      simp [cE_is_rung_1]
    have hc2 : cL (gTu 2 (gsCons (gN 3) (gsCons (gN 5) gsNil))) bYes cE_is_rung_2 [some (.d (.int n)), some (.d (rd (.shares w c))), some (.d (.list (w.map (fun p => PyData.int (p.1 : Int))))), none, none, none] (c.map pr) none = .ok (c.map (fun p => PyData.bool ((w.map (·.1)).contains p.1)), none) := by
      refine cL_map pr _ _ fun p hp => ⟨_, by simp; rfl, ?_⟩
      have := inD_ints (k := p.1) (ks := w.map (·.1))
      rw [List.map_map] at this
      simp only [cE_is_rung_2]
      simp only [eBin_s, eVar_s]
      have this : inD (.int (p.1 : Int)) (.list (w.map (fun p => PyData.int (p.1 : Int)))) = some (.bool ((w.map (·.1)).contains p.1)) := this
      simp [this]
    simp only [rd] at hc1 hc2 ⊢
    cases bw with
    | false => simp [h1]
    | true =>
      cases bc with
      | false => simp [h1, h2]
      | true => simp [h1, h2, wipeOk, hc1, hc2, allD_map, show w.length ≤ 100000 by omega, show c.length ≤ 100000 by omega]
end Sx

namespace Sx
open PySem PySem.Spec PyProof.Rows L2 Mx
@[simp] theorem ix_ld0 {l : Lad} : ixD (ld l) (.int 0) = some (.int l.n) := by rfl
@[simp] theorem ix_ld1 {l : Lad} : ixD (ld l) (.int 1) = some (.tuple (l.rs.map rd)) := by rfl
@[simp] theorem isi_ld {l : Lad} : isiD "tuple" (ld l) = some (.bool true) := by rfl
@[simp] theorem len_ld {l : Lad} : lenD [ld l] = some (.int 2) := by rfl
@[simp] theorem gTu_ld {l : Lad} {gs : SGs} {ρ : Sl} : gTu 2 gs (ld l) ρ = gs [.int l.n, .tuple (l.rs.map rd)] ρ := by rfl
theorem is_ladder_ok {n : Nat} {rs : List Rung} {r : Rung} (h1 : 1 ≤ n) (h5 : n ≤ 5) (hr : rs.length ≤ 3) (hl : ∀ q ∈ rs ++ [r], q.A.length ≤ 1000 ∧ q.C.length ≤ 1000) :
    F_is_ladder [ld ⟨n, rs ++ [r]⟩] = .ok (.bool ((rs ++ [r]).all (rungB n) && r.endless)) := by
  have hc : cL (gN 3) bYes cE_is_ladder_1 [some (.d (ld ⟨n, rs ++ [r]⟩)), some (.d (.int n)), some (.d (.tuple ((rs ++ [r]).map rd))), none] ((rs ++ [r]).map rd) none = .ok ((rs ++ [r]).map (fun q => PyData.bool (rungB n q)), none) := by
    refine cL_map rd _ _ fun q hq => ⟨_, by simp; rfl, ?_⟩
    simp [cE_is_ladder_1, is_rung_ok (n := n) (hl q hq)]
  have hat : atI ((rs ++ [r]).map rd) (-1) = some (rd r) := by rw [List.map_append]; exact atI_last
  unfold F_is_ladder
  simp only [B_is_ladder]
  generalize hL : rs ++ [r] = L at *
  have hlen : L.length = rs.length + 1 := by rw [← hL]; simp
  have ha : allD [.list (L.map fun q => PyData.bool (rungB n q))] = some (.bool (L.all (rungB n))) := allD_map _ _
  generalize L.all (rungB n) = b at ha ⊢
  cases b <;> simp [is_between_ok, show (1 : Int) ≤ (n : Int) by omega, show (n : Int) ≤ 5 by omega, hlen, show (1 : Int) ≤ (rs.length : Int) + 1 by omega, show (rs.length : Int) + 1 ≤ 4 by omega, wipeOk, show rs.length + 1 ≤ 100000 by omega, hc, ha, hat, is_endless_ok]
theorem ladB_iff {n : Nat} {rs : List Rung} {r : Rung} (h1 : 1 ≤ n) (h5 : n ≤ 5) (hr : rs.length ≤ 3) : ((rs ++ [r]).all (rungB n) && r.endless) = true ↔ Lad.Ok ⟨n, rs ++ [r]⟩ := by
  rw [Bool.and_eq_true, List.all_eq_true]
  constructor
  · rintro ⟨a, b⟩
    exact ⟨h1, h5, by simp, by simp; omega, fun q hq => rungB_iff.mp (a q hq), r, by simp, b⟩
  · intro k
    obtain ⟨r', e1, e2⟩ := k.en
    simp at e1
    subst e1
    exact ⟨fun q hq => rungB_iff.mpr (k.ok q hq), e2⟩
theorem Ok_len {n : Nat} {r : Rung} (h : r.Ok n) (h5 : n ≤ 5) : r.A.length ≤ 1000 ∧ r.C.length ≤ 1000 := by
  cases r with
  | fixed s => have := pok_len h.2; exact ⟨by show s.length ≤ _; omega, by show s.length ≤ _; omega⟩
  | shares w c => have := pok_len h.2.1; have := pok_len h.2.2.1; exact ⟨by show w.length ≤ _; omega, by show c.length ≤ _; omega⟩
theorem is_ladder_true {l : Lad} (k : l.Ok) : F_is_ladder [ld l] = .ok (.bool true) := by
  obtain ⟨n, rs⟩ := l
  obtain ⟨r, e1, e2⟩ := k.en
  obtain ⟨qs, e3⟩ : ∃ qs, rs = qs ++ [r] := by
    have := List.getLast?_eq_some_iff.mp e1
    exact this
  subst e3
  have h4 := k.r4
  simp at h4
  rw [is_ladder_ok k.n1 k.n5 (by omega) fun q hq => Ok_len (k.ok q hq) k.n5, (ladB_iff k.n1 k.n5 (by omega)).mpr k]
theorem check_ladder_ok {l : Lad} (k : l.Ok) : F_check_ladder [ld l] = .ok .none := by
  unfold F_check_ladder
  simp only [B_check_ladder]
  simp [is_ladder_true k]
/-! amounts -/
@[simp] theorem isi_fr {q} : isiD "tuple" (fr q) = some (.bool true) := by rfl
@[simp] theorem len_fr {q} : lenD [fr q] = some (.int 2) := by rfl
@[simp] theorem ix_fr0 {q : Rat} : ixD (fr q) (.int 0) = some (.int q.num) := by rfl
@[simp] theorem ix_fr1 {q : Rat} : ixD (fr q) (.int 1) = some (.int q.den) := by rfl
end Sx

namespace Sx
open PySem PySem.Spec PyProof.Rows L2 Mx
/-! ### rates -/
theorem ixN_nat {n h : Nat} (hh : h < n) : ixN n (h : Int) = some h := by
  unfold ixN
  rw [if_pos (by omega), if_pos (by omega)]; rfl
end Sx

namespace Sx
open PySem PySem.Spec PyProof.Rows L2 Mx
/-! ### dicts as typed lists -/
@[simp] theorem shaped_fr {q : Rat} : SeqAt.shaped (fr q) = true := by rfl
@[simp] theorem isNotD_none : isNotD .none .none = some (.bool false) := by rfl
@[simp] theorem isNotD_fr {q : Rat} : isNotD (fr q) .none = some (.bool true) := by rfl
/-! ### the numbers -/
end Sx

namespace Sx
open PySem PySem.Spec PyProof.Rows L2 Mx
/-! data that may be compared -/
mutual
def flt : Nat → Dt → Bool
  | _, .none => true
  | _, .bool _ => true
  | _, .int _ => true
  | _, .str _ => false
  | k, .list ds => match k with
    | 0 => false
    | k + 1 => flts k ds
  | k, .tuple ds => match k with
    | 0 => false
    | k + 1 => flts k ds
  | _, .dict _ => false
def flts : Nat → List Dt → Bool
  | _, [] => true
  | k, d :: ds => flt k d && flts k ds
end
mutual
theorem flt_ok : ∀ (d : Dt) (k : Nat), flt k d = true → d.canLay0 = true ∧ d.depth ≤ k
  | .none, k, _ => ⟨rfl, Nat.zero_le _⟩
  | .bool _, k, _ => ⟨rfl, Nat.zero_le _⟩
  | .int _, k, _ => ⟨rfl, Nat.zero_le _⟩
  | .str _, k, h => by unfold flt at h; cases h
  | .list ds, 0, h => by unfold flt at h; cases h
  | .list ds, k + 1, h => by
    unfold flt at h
    have := flts_ok ds k h
    exact ⟨this.1, Nat.succ_le_succ this.2⟩
  | .tuple ds, 0, h => by unfold flt at h; cases h
  | .tuple ds, k + 1, h => by
    unfold flt at h
    have := flts_ok ds k h
    exact ⟨this.1, Nat.succ_le_succ this.2⟩
  | .dict _, k, h => by unfold flt at h; cases h
theorem flts_ok : ∀ (ds : List Dt) (k : Nat), flts k ds = true → PyData.canLayAll0 ds = true ∧ PyData.depthAll ds ≤ k
  | [], k, _ => ⟨rfl, Nat.zero_le _⟩
  | d :: ds, k, h => by
    unfold flts at h
    rw [Bool.and_eq_true] at h
    have h1 := flt_ok d k h.1
    have h2 := flts_ok ds k h.2
    exact ⟨by show (PyData.canLay0 d && PyData.canLayAll0 ds) = true; rw [h1.1, h2.1]; rfl, Nat.max_le.mpr ⟨h1.2, h2.2⟩⟩
end
theorem shaped_flt {d : Dt} {k : Nat} (h : flt k d = true) (hk : k ≤ 64) : SeqAt.shaped d = true := by
  obtain ⟨h1, h2⟩ := flt_ok d k h
  unfold SeqAt.shaped
  rw [h1, decide_eq_true (by omega)]
  rfl
mutual
theorem eqv_refl : ∀ (d : Dt) (k : Nat), flt k d = true → PyData.eqv d d = true
  | .none, k, _ => rfl
  | .bool b, k, _ => by show (b == b) = true; simp
  | .int i, k, _ => by show (i == i) = true; simp
  | .str _, k, h => by unfold flt at h; cases h
  | .list ds, 0, h => by unfold flt at h; cases h
  | .list ds, k + 1, h => by unfold flt at h; exact eqvAll_refl ds k h
  | .tuple ds, 0, h => by unfold flt at h; cases h
  | .tuple ds, k + 1, h => by unfold flt at h; exact eqvAll_refl ds k h
  | .dict _, k, h => by unfold flt at h; cases h
theorem eqvAll_refl : ∀ (ds : List Dt) (k : Nat), flts k ds = true → PyData.eqvAll ds ds = true
  | [], k, _ => rfl
  | d :: ds, k, h => by
    unfold flts at h
    rw [Bool.and_eq_true] at h
    show (PyData.eqv d d && PyData.eqvAll ds ds) = true
    rw [eqv_refl d k h.1, eqvAll_refl ds k h.2]; rfl
end
theorem flts_map {α : Type} {k : Nat} {f : α → Dt} : ∀ {xs : List α}, (∀ x ∈ xs, flt k (f x) = true) → flts k (xs.map f) = true
  | [], _ => rfl
  | x :: xs, h => by
    rw [List.map_cons]
    show (flt k (f x) && flts k (xs.map f)) = true
    rw [h x (by simp), flts_map fun y hy => h y (List.mem_cons_of_mem _ hy)]; rfl
theorem flt_pr {k : Nat} {p : Nat × Nat} : flt (k + 1) (pr p) = true := rfl
theorem neD_nil {ds : List Dt} {k : Nat} (h : flts k ds = true) (hk : k ≤ 60) : neD (.list ds) (.list []) = some (.bool (!ds.isEmpty)) := by
  unfold neD
  rw [shaped_flt (k := k + 1) (show flt (k + 1) (.list ds) = true from h) (by omega), show SeqAt.shaped (.list []) = true from rfl]
  cases ds <;> rfl
theorem eqD_nil {ds : List Dt} {k : Nat} (h : flts k ds = true) (hk : k ≤ 60) : eqD (.list ds) (.list []) = some (.bool ds.isEmpty) := by
  unfold eqD
  rw [shaped_flt (k := k + 1) (show flt (k + 1) (.list ds) = true from h) (by omega), show SeqAt.shaped (.list []) = true from rfl]
  cases ds <;> rfl
end Sx

namespace Sx
open PySem PySem.Spec PyProof.Rows L2 Mx
theorem rngOf_n {n : Nat} (h : n ≤ 1000) : rngOf [.int (n : Int)] = some ((List.range n).map fun (i : Nat) => PyData.int (i : Int)) := by
  show (if (n : Int) ≤ 100000 ∧ -100000 ≤ (n : Int) then some (rngD (n : Int)) else none) = _
  rw [if_pos (by omega)]
  rfl
end Sx

namespace Sx
open PySem PySem.Spec PyProof.Rows L2 Mx
/-! ### draws -/
abbrev iD (n : Nat) : Dt := .int (n : Int)
def scD (ns : List Int) : Dt := .list (ns.map PyData.int)
def Tn (ns : List Int) (m : Nat) (ws : List Dt) : Prop := ∃ (c : Nat) (zs : List Int), ws = .int (c : Int) :: zs.map PyData.int ∧ zs.length = ns.length ∧ c + m ≤ 1000000
theorem Tn.mono {ns : List Int} {m m' : Nat} {ws : List Dt} (h : Tn ns m ws) (hm : m' ≤ m) : Tn ns m' ws := by
  obtain ⟨c, zs, h1, h2, h3⟩ := h
  exact ⟨c, zs, h1, h2, by omega⟩
theorem town_ok (ns : List Int) (h : ns.length ≤ 63) : F__law_town [scD ns] = .ok (.int 0 :: ns.map PyData.int) := by
  unfold F__law_town
  simp only [B__law_town, scD]
  have : addL (.list [.int 0]) (.list (ns.map PyData.int)) = some (.int 0 :: ns.map PyData.int) := by
    show (if ([PyData.int 0] : List Dt).length + (ns.map PyData.int).length ≤ 100000 then some ([PyData.int 0] ++ ns.map PyData.int) else none) = _
    rw [if_pos (by simp; omega)]; rfl
  simp [this]
theorem Tn.start (ns : List Int) : Tn ns 1000000 (.int 0 :: ns.map PyData.int) := ⟨0, ns, rfl, rfl, by omega⟩
theorem flts_ints {k : Nat} (ns : List Int) : flts k (ns.map PyData.int) = true := flts_map fun _ _ => by cases k <;> rfl
theorem atI_ints {ns : List Int} {i : Nat} (h : i < ns.length) : atI (ns.map PyData.int) (i : Int) = some (.int (ns.getD i 0)) := by
  rw [atI_nat (by simpa using h), List.getElem?_map, List.getD_eq_getElem?_getD, List.getElem?_eq_getElem h]; rfl
theorem setD_0 {c : Dt} {zs : List Dt} {d : Dt} : setD (c :: zs) (.int 0) d = some (d :: zs) := by
  show (ixN (c :: zs).length 0).map _ = _
  have : ixN (c :: zs).length 0 = some 0 := by
    have := ixN_nat (n := (c :: zs).length) (h := 0) (by simp)
    simpa using this
  rw [this]; rfl
theorem setD_s {c : Dt} {zs : List Int} {d : Int} {i : Nat} (h : i < zs.length) : setD (c :: zs.map PyData.int) (.int (1 + (i : Int))) (.int d) = some (c :: (zs.set i d).map PyData.int) := by
  show (ixN (c :: zs.map PyData.int).length (1 + (i : Int))).map _ = _
  have e : ((1 : Int) + (i : Int)) = ((1 + i : Nat) : Int) := by omega
  rw [e, ixN_nat (by simp; omega), show 1 + i = i + 1 by omega]
  show some (c :: (zs.map PyData.int).set i (.int d)) = _
  rw [List.map_set]
theorem atI_s {c : Dt} {zs : List Int} {i : Nat} (h : i < zs.length) : atI (c :: zs.map PyData.int) (1 + (i : Int)) = some (.int (zs.getD i 0)) := by
  have e : ((1 : Int) + (i : Int)) = ((i + 1 : Nat) : Int) := by omega
  rw [e, atI_nat (by simp; omega), List.getElem?_cons_succ, List.getElem?_map, List.getD_eq_getElem?_getD, List.getElem?_eq_getElem h]; rfl
theorem powD_i {a : Int} {b : Nat} (h : a.natAbs < 2 ^ 64) (hb : b ≤ 1000000) : powD (.int a) (.int (b : Int)) = some (.int (a ^ b)) := by
  show (if 0 ≤ (b : Int) ∧ (b : Int) ≤ 1000000 ∧ a.natAbs < 2 ^ 64 then some (PyData.int (a ^ (b : Int).toNat)) else none) = _
  rw [if_pos ⟨by omega, by omega, h⟩, Int.toNat_natCast]
theorem draw_ok {ns : List Int} {m L : Nat} {ws : List Dt} (hl : ns.length ≤ 63) (hL : 0 < L) (hLb : L < 2 ^ 64) (t : Tn ns (m + 1) ws) : ∃ (d : Nat) (ws' : List Dt), F__law_draw [scD ns, .int (L : Int)] ws = .ok (iD d, ws') ∧ d < L ∧ Tn ns m ws' := by
  obtain ⟨c, zs, rfl, hz, hc⟩ := t
  have hm : ∀ x : Int, ∃ d : Nat, x % (L : Int) = (d : Int) ∧ d < L := fun x => by
    have h1 := Int.emod_nonneg x (show (L : Int) ≠ 0 by omega)
    have h2 := Int.emod_lt_of_pos x (show (0 : Int) < (L : Int) by omega)
    exact ⟨(x % (L : Int)).toNat, by omega, by omega⟩
  have hLlog : (L : Nat).log2 < 9000 := by
    rw [Nat.log2_lt (by omega)]
    exact Nat.lt_of_lt_of_le hLb (Nat.pow_le_pow_right (by decide) (by decide))
  have hcc : ((c : Int) + 1).natAbs < 2 ^ 20 := by
    have : ((c : Int) + 1).natAbs ≤ 1000000 := by omega
    exact Nat.lt_of_le_of_lt this (by decide)
  by_cases hns : ns = []
  · subst hns
    have hz0 : zs = [] := List.eq_nil_of_length_eq_zero hz
    subst hz0
    obtain ⟨d, hd, hd2⟩ := hm (((c : Int) + 1) * ((c : Int) + 1) * 7 / 3)
    refine ⟨d, [.int ((c : Int) + 1)], ?_, hd2, c + 1, [], rfl, rfl, by omega⟩
    have m1 : mulOk ((c : Int) + 1) ((c : Int) + 1) = true := mulOk_of hcc hcc (by decide)
    have m2 : mulOk (((c : Int) + 1) * ((c : Int) + 1)) 7 = true := mulOk_of (j := 40) (k := 3) (by rw [Int.natAbs_mul]; exact mul_lt_pow hcc hcc) (by decide) (by decide)
    have hnil : eqD (scD []) (.list []) = some (.bool true) := eqD_nil (k := 1) rfl (by decide)
    unfold F__law_draw
    simp only [B__law_draw]
    simp [setD_0, hnil, m1, m2, hL, hd, show Nat.log2 3 < 9000 by decide]
  · have hpos : 0 < ns.length := List.length_pos_iff.mpr hns
    have hnil : eqD (scD ns) (.list []) = some (.bool false) := by
      have := eqD_nil (ds := ns.map PyData.int) (k := 1) (flts_ints ns) (by decide)
      unfold scD
      rw [this]
      cases ns with
      | nil => exact absurd rfl hns
      | cons _ _ => rfl
    obtain ⟨i, hi, hi2⟩ : ∃ i : Nat, ((c : Int) + 1) % (ns.length : Int) = (i : Int) ∧ i < ns.length := by
      have h1 := Int.emod_nonneg ((c : Int) + 1) (show (ns.length : Int) ≠ 0 by omega)
      have h2 := Int.emod_lt_of_pos ((c : Int) + 1) (show (0 : Int) < (ns.length : Int) by omega)
      exact ⟨(((c : Int) + 1) % (ns.length : Int)).toNat, by omega, by omega⟩
    have hlen : lenD [scD ns] = some (.int ns.length) := by unfold scD; simp
    have hat := atI_ints (ns := ns) hi2
    have hats : ixD (scD ns) (.int (i : Int)) = some (.int (ns.getD i 0)) := hat
    have hatz := fun c0 : Dt => atI_s (c := c0) (zs := zs) (i := i) (by omega)
    have hset := fun d : Int => setD_s (c := PyData.int ((c : Int) + 1)) (zs := zs) (d := d) (i := i) (by omega)
    have hp18 : powD (.int 10) (.int 18) = some (.int (10 ^ 18)) := powD_i (a := 10) (b := 18) (by decide) (by decide)
    by_cases hbig : (1000000000000000000 : Int) ≤ ns.getD i 0 ∧ 0 < zs.getD i 0
    · obtain ⟨d, hd, hd2⟩ := hm (zs.getD i 0)
      refine ⟨d, .int ((c : Int) + 1) :: (zs.set i (zs.getD i 0 / (L : Int))).map PyData.int, ?_, hd2, c + 1, _, rfl, by rw [List.length_set]; exact hz, by omega⟩
      unfold F__law_draw
      simp only [B__law_draw]
      simp only [List.getD_eq_getElem?_getD] at hats hatz hset hbig hd ⊢
      simp [setD_0, hnil, hlen, hpos, hi, hats, hatz, hset, hp18, hbig.1, hbig.2, hL, hLlog, hd]
    · have hb5 : ∀ x : Int, ∃ y : Nat, x % 4294967291 = (y : Int) ∧ y < 4294967291 := fun x => ⟨(x % 4294967291).toNat, by omega, by omega⟩
      obtain ⟨y, hy, hy2⟩ := hb5 (ns.getD i 0 + 104729 * ((c : Int) + 1))
      obtain ⟨z, hz1, hz2⟩ : ∃ z : Nat, ((y : Int) ^ 5) % 4294967279 = (z : Int) ∧ z < 4294967279 := ⟨(((y : Int) ^ 5) % 4294967279).toNat, by omega, by omega⟩
      obtain ⟨d, hd, hd2⟩ := hm (((z : Int) / 64 * 69621 + z) % 4294967231 / 8)
      refine ⟨d, .int ((c : Int) + 1) :: zs.map PyData.int, ?_, hd2, c + 1, zs, rfl, hz, by omega⟩
      have m1 : mulOk 104729 ((c : Int) + 1) = true := mulOk_of (j := 20) (k := 20) (by decide) hcc (by decide)
      have m2 : mulOk ((z : Int) / 64) 69621 = true := mulOk_of (j := 33) (k := 20) (by
        have : ((z : Int) / 64).natAbs ≤ 4294967279 := by omega
        exact Nat.lt_of_le_of_lt this (by decide)) (by decide) (by decide)
      have hpw : powD (.int (y : Int)) (.int 5) = some (.int ((y : Int) ^ 5)) := powD_i (a := (y : Int)) (b := 5) (by
        have : (y : Int).natAbs ≤ 4294967291 := by omega
        exact Nat.lt_of_le_of_lt this (by decide)) (by decide)
      have hcnd : ∀ (ρ : Sl) (W : Tw), True := fun _ _ => trivial
      unfold F__law_draw
      simp only [B__law_draw]
      simp only [List.getD_eq_getElem?_getD] at hats hatz hbig hy ⊢
      by_cases hq : (1000000000000000000 : Int) ≤ ns[i]?.getD 0
      · have hq2 : ¬ (0 : Int) < zs[i]?.getD 0 := fun z => hbig ⟨hq, z⟩
        simp [setD_0, hnil, hlen, hpos, hi, hats, hatz, hp18, hq, hq2, m1, m2, hy, hpw, hz1, hL, hd, show Nat.log2 64 < 9000 by decide, show Nat.log2 8 < 9000 by decide]
      · simp [setD_0, hnil, hlen, hpos, hi, hats, hatz, hp18, hq, m1, m2, hy, hpw, hz1, hL, hd, show Nat.log2 64 < 9000 by decide, show Nat.log2 8 < 9000 by decide]
end Sx

namespace Sx
open PySem PySem.Spec PyProof.Rows L2 Mx
section
variable {ns : List Int}
theorem cL_tw {α : Type} {g : SG} {c : SB} {e : SE} {ρ0 : Sl} (enc : α → Dt) (b : Nat) (Q : α → Dt → Prop) : ∀ (xs : List α) (m : Nat) (ws : List Dt), Tn ns (m + b * xs.length) ws →
    (∀ x ∈ xs, ∀ m ws, Tn ns (m + b) ws → ∃ ρ1, g (enc x) ρ0 = some ρ1 ∧ ((∃ ws', c ρ1 (some ws) = .ok (false, some ws') ∧ Tn ns m ws') ∨ ∃ ws1 v ws', c ρ1 (some ws) = .ok (true, some ws1) ∧ e ρ1 (some ws1) = .ok (v, some ws') ∧ Q x v ∧ Tn ns m ws')) →
    ∃ (ys : List (α × Dt)) (ws' : List Dt), cL g c e ρ0 (xs.map enc) (some ws) = .ok (ys.map (·.2), some ws') ∧ (ys.map (·.1)).Sublist xs ∧ (∀ y ∈ ys, Q y.1 y.2) ∧ Tn ns m ws'
  | [], m, ws, t, _ => ⟨[], ws, rfl, .slnil, fun y hy => (by cases hy), t.mono (by omega)⟩
  | x :: xs, m, ws, t, h => by
    rw [List.length_cons, Nat.mul_succ, ← Nat.add_assoc] at t
    obtain ⟨ρ1, h1, h2⟩ := h x (by simp) _ ws t
    rw [List.map_cons]
    unfold cL
    simp only [h1]
    rcases h2 with ⟨ws', h3, t'⟩ | ⟨ws1, v, ws', h3, h4, hq, t'⟩
    · obtain ⟨ys, ws2, i1, i2, i3, i4⟩ := cL_tw enc b Q xs m ws' t' fun y hy => h y (List.mem_cons_of_mem _ hy)
      refine ⟨ys, ws2, ?_, i2.cons x, i3, i4⟩
      simp only [h3, nox_ok, Res.bind_ok, Bool.false_eq_true, if_false, i1]
    · obtain ⟨ys, ws2, i1, i2, i3, i4⟩ := cL_tw enc b Q xs m ws' t' fun y hy => h y (List.mem_cons_of_mem _ hy)
      refine ⟨(x, v) :: ys, ws2, ?_, ?_, ?_, i4⟩
      · simp only [h3, nox_ok, Res.bind_ok, if_true, h4, i1]; rfl
      · exact i2.cons_cons x
      · intro y hy
        rcases List.mem_cons.mp hy with z | z
        · rw [z]; exact hq
        · exact i3 y z
theorem cL_tw1 {α : Type} {g : SG} {e : SE} {ρ0 : Sl} (enc : α → Dt) (b : Nat) (Q : α → Dt → Prop) : ∀ (xs : List α) (m : Nat) (ws : List Dt), Tn ns (m + b * xs.length) ws →
    (∀ x ∈ xs, ∀ m ws, Tn ns (m + b) ws → ∃ ρ1 v ws', g (enc x) ρ0 = some ρ1 ∧ e ρ1 (some ws) = .ok (v, some ws') ∧ Q x v ∧ Tn ns m ws') →
    ∃ (ys : List (α × Dt)) (ws' : List Dt), cL g bYes e ρ0 (xs.map enc) (some ws) = .ok (ys.map (·.2), some ws') ∧ ys.map (·.1) = xs ∧ (∀ y ∈ ys, Q y.1 y.2) ∧ Tn ns m ws'
  | [], m, ws, t, _ => ⟨[], ws, rfl, rfl, fun y hy => (by cases hy), t.mono (by omega)⟩
  | x :: xs, m, ws, t, h => by
    rw [List.length_cons, Nat.mul_succ, ← Nat.add_assoc] at t
    obtain ⟨ρ1, v, ws', h1, h4, hq, t'⟩ := h x (by simp) _ ws t
    rw [List.map_cons]
    unfold cL
    simp only [h1]
    obtain ⟨ys, ws2, i1, i2, i3, i4⟩ := cL_tw1 enc b Q xs m ws' t' fun y hy => h y (List.mem_cons_of_mem _ hy)
    refine ⟨(x, v) :: ys, ws2, ?_, ?_, ?_, i4⟩
    · simp only [bYes_s, nox_ok, Res.bind_ok, if_true, h4, i1]; rfl
    · rw [List.map_cons, i2]
    · intro y hy
      rcases List.mem_cons.mp hy with z | z
      · rw [z]; exact hq
      · exact i3 y z
theorem fL_tw {α : Type} {g : SG} {body : SS} (enc : α → Dt) (b : Nat) (I : List α → Sl → Prop) (ys : List α)
    (h : ∀ pre x post ρ m ws, ys = pre ++ x :: post → I pre ρ → Tn ns (m + b) ws → ∃ ρ1 ρ2 ws', g (enc x) ρ = some ρ1 ∧ body ρ1 (some ws) = .nx ρ2 (some ws') ∧ I (pre ++ [x]) ρ2 ∧ Tn ns m ws') :
    ∀ (xs pre : List α) (ρ : Sl) (m : Nat) (ws : List Dt), ys = pre ++ xs → I pre ρ → Tn ns (m + b * xs.length) ws → ∃ ρ' ws', fL g body (xs.map enc) ρ (some ws) = .nx ρ' (some ws') ∧ I ys ρ' ∧ Tn ns m ws'
  | [], pre, ρ, m, ws, e, i, t => ⟨ρ, ws, rfl, by rw [e, List.append_nil]; exact i, t.mono (by omega)⟩
  | x :: xs, pre, ρ, m, ws, e, i, t => by
    rw [List.length_cons, Nat.mul_succ, ← Nat.add_assoc] at t
    obtain ⟨ρ1, ρ2, ws', h1, h2, h3, t'⟩ := h pre x xs ρ _ ws e i t
    obtain ⟨ρ', ws2, h4, h5, t2⟩ := fL_tw enc b I ys h xs (pre ++ [x]) ρ2 m ws' (by rw [e]; simp) h3 t'
    refine ⟨ρ', ws2, ?_, h5, t2⟩
    rw [List.map_cons, fL_cons, h1]
    simp only [h2, h4]
theorem pick_ok {cs : List Dt} {m : Nat} {ws : List Dt} {k : Bool} (hl : ns.length ≤ 63) (h0 : 0 < cs.length) (h1 : cs.length ≤ 1000) (t : Tn ns (m + 1) ws) :
    ∃ (v : Dt) (ws' : List Dt), F__law_pick [scD ns, if k then .list cs else .tuple cs] ws = .ok (v, ws') ∧ v ∈ cs ∧ Tn ns m ws' := by
  obtain ⟨d, ws', hd, hd2, t'⟩ := draw_ok (L := cs.length) hl h0 (Nat.lt_of_le_of_lt h1 (by decide)) t
  refine ⟨cs[d], ws', ?_, List.getElem_mem hd2, t'⟩
  have hat : atI cs (d : Int) = some cs[d] := by rw [atI_nat hd2, List.getElem?_eq_getElem hd2]
  unfold F__law_pick
  simp only [B__law_pick]
  cases k <;> simp [hd, hat]
theorem pick_nat {nums : List Nat} {m : Nat} {ws : List Dt} (hl : ns.length ≤ 63) (h0 : 0 < nums.length) (h1 : nums.length ≤ 1000) (t : Tn ns (m + 1) ws) :
    ∃ (v : Nat) (ws' : List Dt), F__law_pick [scD ns, .list (nums.map iD)] ws = .ok (iD v, ws') ∧ v ∈ nums ∧ Tn ns m ws' := by
  obtain ⟨v, ws', h, hv, t'⟩ := pick_ok (k := true) (cs := nums.map iD) hl (by simpa using h0) (by simpa using h1) t
  obtain ⟨n, hn, rfl⟩ := List.mem_map.mp hv
  exact ⟨n, ws', h, hn, t'⟩
theorem pairs_ok {n M m : Nat} {nums : List Nat} {ws : List Dt} (hl : ns.length ≤ 63) (hn1 : 1 ≤ n) (hn : n ≤ 5) (h0 : 0 < nums.length) (h1 : nums.length ≤ 1000) (hM : ∀ x ∈ nums, 1 ≤ x ∧ x ≤ M) (t : Tn ns (m + 11) ws) :
    ∃ (ps : List (Nat × Nat)) (ws' : List Dt), F__law_pairs [scD ns, iD n, .list (nums.map iD)] ws = .ok (prs ps, ws') ∧ ps ≠ [] ∧ POk n M ps ∧ Tn ns m ws' := by
  have t0 : Tn ns ((m + 6) + 1 * (List.range n).length) ws := t.mono (by simp; omega)
  obtain ⟨ys, ws1, c1, c2, c3, c4⟩ := cL_tw (ns := ns) (g := gN 5) (c := cC__law_pairs_1) (e := cE__law_pairs_1) (ρ0 := [some (.d (scD ns)), some .town, some (.d (iD n)), some (.d (.list (nums.map iD))), none, none]) iD 1 (fun x v => v = iD x) (List.range n) (m + 6) ws t0 (by
    intro x hx m ws t
    obtain ⟨d, ws', hd, hd2, t'⟩ := draw_ok (L := 2) hl (by decide) (by decide) t
    have hd : F__law_draw [scD ns, .int 2] ws = .ok (iD d, ws') := hd
    refine ⟨_, by simp; rfl, ?_⟩
    by_cases hz : d = 0
    · exact .inr ⟨ws', iD x, ws', by simp [cC__law_pairs_1, hd, hz], by simp [cE__law_pairs_1], rfl, t'⟩
    · exact .inl ⟨ws', by simp [cC__law_pairs_1, hd, show ¬ d = 0 from hz], t'⟩)
  have hys : ys.map (·.2) = (ys.map (·.1)).map iD := by
    rw [List.map_map]
    exact List.map_congr_left fun y hy => c3 y hy
  rw [hys] at c1
  generalize ys.map (·.1) = sub at c1 c2
  have hsub : ∃ (sub2 : List Nat) (ws2 : List Dt), sub2 ≠ [] ∧ sub2.length ≤ 5 ∧ (∀ x ∈ sub2, x < n) ∧ sub2.Pairwise (· < ·) ∧ Tn ns (m + 5) ws2 ∧
      sIf (bOf (eBin eqD (eVar 4) (eFrz (lLst aNil)))) (sAsg 4 (eFrz (lLst (aCons (eCallT 1 F__law_draw (eVar 0) 1 (aCons (eVar 2) aNil)) aNil)))) sPass [some (.d (scD ns)), some .town, some (.d (iD n)), some (.d (.list (nums.map iD))), some (.d (.list (sub.map iD))), none] (some ws1) = .nx [some (.d (scD ns)), some .town, some (.d (iD n)), some (.d (.list (nums.map iD))), some (.d (.list (sub2.map iD))), none] (some ws2) := by
    have hnil := eqD_nil (ds := sub.map iD) (k := 1) (flts_map fun _ _ => rfl) (by decide)
    by_cases hs : sub = []
    · subst hs
      obtain ⟨d, ws', hd, hd2, t'⟩ := draw_ok (L := n) (m := m + 5) hl (by omega) (by
        have : (5 : Nat) < 2 ^ 64 := by decide
        omega) (c4.mono (by omega))
      refine ⟨[d], ws', by simp, by simp, by simpa using hd2, by simp, t', ?_⟩
      simp at hnil
      simp [hnil, hd]
    · refine ⟨sub, ws1, hs, ?_, fun x hx => List.mem_range.mp (c2.subset hx), List.Pairwise.sublist c2 List.pairwise_lt_range, c4.mono (by omega), ?_⟩
      · have := c2.length_le
        rw [List.length_range] at this
        omega
      · have : (sub.map iD).isEmpty = false := by cases sub with
          | nil => exact absurd rfl hs
          | cons _ _ => rfl
        rw [this] at hnil
        rw [sIf_s, bOf_s, eBin_s]
        simp only [eVar_s, eFrz_s, lLst_s, aNil_s]
        simp [hnil]
  obtain ⟨sub2, ws2, s1, s2, s3, s4, s5, s6⟩ := hsub
  obtain ⟨zs, ws3, d1, d2, d3, d4⟩ := cL_tw1 (ns := ns) (g := gN 5) (e := cE__law_pairs_2) (ρ0 := [some (.d (scD ns)), some .town, some (.d (iD n)), some (.d (.list (nums.map iD))), some (.d (.list (sub2.map iD))), none]) iD 1 (fun x v => ∃ p ∈ nums, v = pr (x, p)) sub2 m ws2 (s5.mono (by omega)) (by
    intro x hx m ws t
    obtain ⟨v, ws', hv, hv2, t'⟩ := pick_nat hl h0 h1 t
    refine ⟨_, pr (x, v), ws', by simp; rfl, ?_, ⟨v, hv2, rfl⟩, t'⟩
    simp [cE__law_pairs_2, hv]
    rfl)
  have hex : ∃ ps : List (Nat × Nat), zs.map (·.2) = ps.map pr ∧ ps.map (·.1) = sub2 ∧ ∀ p ∈ ps, p.2 ∈ nums := by
    subst d2
    clear d1 s6 s4 s3 s2 s1
    induction zs with
    | nil => exact ⟨[], rfl, rfl, fun p hp => by cases hp⟩
    | cons z zs ih =>
      obtain ⟨ps, q1, q2, q3⟩ := ih fun y hy => d3 y (List.mem_cons_of_mem _ hy)
      obtain ⟨p, hp, e⟩ := d3 z (by simp)
      refine ⟨(z.1, p) :: ps, by rw [List.map_cons, List.map_cons, q1, e], by rw [List.map_cons, List.map_cons, q2], fun r hr => ?_⟩
      rcases List.mem_cons.mp hr with y | y
      · rw [y]; exact hp
      · exact q3 r y
  obtain ⟨ps, q1, q2, q3⟩ := hex
  refine ⟨ps, ws3, ?_, ?_, ⟨fun p hp => ?_, ?_⟩, d4⟩
  · rw [q1] at d1
    unfold F__law_pairs
    simp only [B__law_pairs]
    have e1 : sAsg 4 (eFrz (lComp (iRng (aCons (eVar 2) aNil)) (gN 5) cC__law_pairs_1 cE__law_pairs_1 [5])) [some (.d (scD ns)), some .town, some (.d (iD n)), some (.d (.list (nums.map iD))), none, none] (some ws) = .nx [some (.d (scD ns)), some .town, some (.d (iD n)), some (.d (.list (nums.map iD))), some (.d (.list (sub.map iD))), none] (some ws1) := by
      have hr := rngOf_n (n := n) (by omega)
      simp [hr, wipeOk, show n ≤ 100000 by omega, c1]
    have e0 : startT 6 [scD ns, iD n, .list (nums.map iD)] = [some (.d (scD ns)), some .town, some (.d (iD n)), some (.d (.list (nums.map iD))), none, none] := rfl
    rw [runT_s, e0, sSeq_s, e1]
    simp only
    rw [sSeq_s, s6]
    simp [wipeOk, show sub2.length ≤ 100000 by omega, d1]
    rfl
  · intro z
    subst z
    exact s1 q2.symm
  · have hm := q3 p hp
    exact ⟨s3 p.1 (by rw [← q2]; exact List.mem_map.mpr ⟨p, hp, rfl⟩), hM p.2 hm⟩
  · rw [← q2, List.pairwise_map] at s4
    exact s4
end
end Sx

namespace Sx
open PySem PySem.Spec PyProof.Rows L2 Mx
section
variable {ns : List Int}
theorem rung_loop {n kk m : Nat} {fz : Int} {w : List (Nat × Nat)} {ws : List Dt} (hl : ns.length ≤ 63) (hw : ∀ p ∈ w, 1 ≤ p.2 ∧ p.2 ≤ 20) (hlen : w.length ≤ 5) (t : Tn ns (m + 2 * w.length) ws) :
    ∃ (cs : List (Nat × Nat)) (a b : Option SV) (ws' : List Dt), fL (gTu 2 (gsCons (gN 7) (gsCons (gN 8) gsNil))) lB__law_rung_1 (w.map pr) [some (.d (scD ns)), some .town, some (.d (iD n)), some (.d (iD kk)), some (.d (prs w)), some (.d (.int fz)), some (.own []), none, none] (some ws) = .nx [some (.d (scD ns)), some .town, some (.d (iD n)), some (.d (iD kk)), some (.d (prs w)), some (.d (.int fz)), some (.own (cs.map pr)), a, b] (some ws') ∧
      (cs.map (·.1)).Sublist (w.map (·.1)) ∧ (∀ p ∈ cs, 1 ≤ p.2 ∧ p.2 ≤ 999 ∧ (p.1 : Int) ≠ fz) ∧ Tn ns m ws' := by
  have key := fL_tw (ns := ns) (g := gTu 2 (gsCons (gN 7) (gsCons (gN 8) gsNil))) (body := lB__law_rung_1) pr 2
    (fun pre ρ => ∃ cs a b, ρ = [some (.d (scD ns)), some .town, some (.d (iD n)), some (.d (iD kk)), some (.d (prs w)), some (.d (.int fz)), some (.own (cs.map pr)), a, b] ∧ (cs.map (·.1)).Sublist (pre.map (·.1)) ∧ (∀ p ∈ cs, 1 ≤ p.2 ∧ p.2 ≤ 999 ∧ (p.1 : Int) ≠ fz)) w (by
      rintro pre x post ρ m ws e ⟨cs, a, b, rfl, hsub, hcs⟩ t
      have hx : x ∈ w := by rw [e]; simp
      obtain ⟨hx1, hx2⟩ := hw x hx
      have hcl : cs.length ≤ 5 := by
        have h1 := hsub.length_le
        rw [List.length_map, List.length_map] at h1
        have h2 : pre.length ≤ w.length := by rw [e, List.length_append]; omega
        omega
      have hsub2 : (cs.map (·.1)).Sublist ((pre ++ [x]).map (·.1)) := by
        rw [List.map_append]
        exact hsub.trans (List.sublist_append_left _ _)
      have hg : gTu 2 (gsCons (gN 7) (gsCons (gN 8) gsNil)) (pr x) [some (.d (scD ns)), some .town, some (.d (iD n)), some (.d (iD kk)), some (.d (prs w)), some (.d (.int fz)), some (.own (cs.map pr)), a, b] = some [some (.d (scD ns)), some .town, some (.d (iD n)), some (.d (iD kk)), some (.d (prs w)), some (.d (.int fz)), some (.own (cs.map pr)), some (.d (iD x.1)), some (.d (iD x.2))] := by simp
      by_cases hf : (x.1 : Int) = fz
      · refine ⟨_, [some (.d (scD ns)), some .town, some (.d (iD n)), some (.d (iD kk)), some (.d (prs w)), some (.d (.int fz)), some (.own (cs.map pr)), some (.d (iD x.1)), some (.d (iD x.2))], ws, hg, ?_, ⟨cs, _, _, rfl, hsub2, hcs⟩, t.mono (by omega)⟩
        simp [lB__law_rung_1, hf]
      · obtain ⟨d, ws1, hd, hd2, t1⟩ := draw_ok (L := 4) (m := m + 1) hl (by decide) (by decide) t
        have hd : F__law_draw [scD ns, .int 4] ws = .ok (iD d, ws1) := hd
        by_cases hz : d = 0
        · refine ⟨_, [some (.d (scD ns)), some .town, some (.d (iD n)), some (.d (iD kk)), some (.d (prs w)), some (.d (.int fz)), some (.own (cs.map pr)), some (.d (iD x.1)), some (.d (iD x.2))], ws1, hg, ?_, ⟨cs, _, _, rfl, hsub2, hcs⟩, t1.mono (by omega)⟩
          simp [lB__law_rung_1, hf, hd, hz]
        · obtain ⟨v, ws2, hv, hv2, t2⟩ := pick_nat (nums := [1, 2, 3, 5, 10, 20, 5 * x.2]) hl (by simp) (by simp) t1
          have hm : mulOk 5 (x.2 : Int) = true := mulOk_of (j := 3) (k := 5) (by decide) (by rw [Int.natAbs_natCast]; omega) (by decide)
          have hvv : 1 ≤ v ∧ v ≤ 999 := by
            simp at hv2
            omega
          have hv : F__law_pick [scD ns, .list [.int 1, .int 2, .int 3, .int 5, .int 10, .int 20, .int (5 * (x.2 : Int))]] ws1 = .ok (iD v, ws2) := by
            have e : ([1, 2, 3, 5, 10, 20, 5 * x.2] : List Nat).map iD = [.int 1, .int 2, .int 3, .int 5, .int 10, .int 20, .int (5 * (x.2 : Int))] := by simp [iD]
            rw [e] at hv
            exact hv
          refine ⟨_, [some (.d (scD ns)), some .town, some (.d (iD n)), some (.d (iD kk)), some (.d (prs w)), some (.d (.int fz)), some (.own ((cs ++ [(x.1, v)]).map pr)), some (.d (iD x.1)), some (.d (iD x.2))], ws2, hg, ?_, ⟨cs ++ [(x.1, v)], _, _, rfl, ?_, ?_⟩, t2⟩
          · have hlt : (cs.map pr).length < 100000 := by rw [List.length_map]; omega
            have hdp : (0 : Int) < (d : Int) := by omega
            simp only [lB__law_rung_1]
            simp [hf, hd, hdp, hm, hv, show 0 < d by omega, show cs.length < 100000 by omega]
            rfl
          · rw [List.map_append, List.map_append]
            exact hsub.append (List.Sublist.refl _)
          · intro p hp
            rcases List.mem_append.mp hp with z | z
            · exact hcs p z
            · rw [List.mem_singleton.mp z]
              exact ⟨hvv.1, hvv.2, hf⟩) w [] [some (.d (scD ns)), some .town, some (.d (iD n)), some (.d (iD kk)), some (.d (prs w)), some (.d (.int fz)), some (.own []), none, none] m ws rfl ⟨[], none, none, rfl, .slnil, fun p hp => by cases hp⟩ t
  obtain ⟨ρ', ws', h1, ⟨cs, a, b, rfl, h2, h3⟩, t'⟩ := key
  exact ⟨cs, a, b, ws', h1, h2, h3, t'⟩
theorem rung_draw {n m kk : Nat} {ws : List Dt} (hl : ns.length ≤ 63) (hn1 : 1 ≤ n) (hn : n ≤ 5) (hk : kk ≤ 2) (t : Tn ns (m + 22) ws) :
    ∃ (r : Rung) (ws' : List Dt), F__law_rung [scD ns, iD n, iD kk] ws = .ok (rd r, ws') ∧ r.Ok n ∧ (kk = 2 → r.endless = true) ∧ Tn ns m ws' := by
  by_cases h0 : kk = 0
  · subst h0
    obtain ⟨ps, ws', h1, h2, h3, t'⟩ := pairs_ok (M := 999) (nums := [1, 2, 3, 5, 10, 20, 100, 999]) (m := m) hl hn1 hn (by decide) (by decide) (by decide) (t.mono (by omega))
    refine ⟨.fixed ps, ws', ?_, ⟨h2, h3⟩, fun z => (by cases z), t'⟩
    have h1 : F__law_pairs [scD ns, .int (n : Int), .list [.int 1, .int 2, .int 3, .int 5, .int 10, .int 20, .int 100, .int 999]] ws = .ok (prs ps, ws') := h1
    unfold F__law_rung
    simp only [B__law_rung]
    simp [h1, rd]
  · obtain ⟨w, ws1, h1, h2, h3, t1⟩ := pairs_ok (M := 20) (nums := [1, 1, 2, 3, 4, 20]) (m := m + 11) hl hn1 hn (by decide) (by decide) (by decide) (t.mono (by omega))
    have h1 : F__law_pairs [scD ns, .int (n : Int), .list [.int 1, .int 1, .int 2, .int 3, .int 4, .int 20]] ws = .ok (prs w, ws1) := h1
    have hlw := pok_len h3
    have hfree : ∃ (fz : Int) (ws2 : List Dt), eIf (bOf (eBin eqD (eVar 3) (eC (.int 2)))) (eBin ixD (eCallT 1 F__law_pick (eVar 0) 1 (aCons (eVar 4) aNil)) (eC (.int 0))) (eUn negD (eC (.int 1))) [some (.d (scD ns)), some .town, some (.d (iD n)), some (.d (iD kk)), some (.d (prs w)), none, none, none, none] (some ws1) = .ok (.int fz, some ws2) ∧ (kk = 2 → ∃ p ∈ w, fz = (p.1 : Int)) ∧ Tn ns (m + 10) ws2 := by
      by_cases hk2 : kk = 2
      · subst hk2
        obtain ⟨v, ws2, hv, hv2, t2⟩ := pick_ok (k := false) (cs := w.map pr) (m := m + 10) hl (by rw [List.length_map]; exact List.length_pos_iff.mpr h2) (by rw [List.length_map]; omega) t1
        obtain ⟨p, hp, rfl⟩ := List.mem_map.mp hv2
        have hv : F__law_pick [scD ns, prs w] ws1 = .ok (pr p, ws2) := hv
        exact ⟨(p.1 : Int), ws2, by simp [hv], fun _ => ⟨p, hp, rfl⟩, t2⟩
      · exact ⟨-1, ws1, by simp [show ¬ (kk : Int) = 2 by omega], fun z => absurd z hk2, t1.mono (by omega)⟩
    obtain ⟨fz, ws2, f1, f2, t2⟩ := hfree
    obtain ⟨cs, a, b, ws3, l1, l2, l3, t3⟩ := rung_loop (n := n) (kk := kk) (m := m) (fz := fz) hl (fun p hp => (h3.el p hp).2) (by omega) (t2.mono (by omega))
    have hkey : ∀ p ∈ cs, ∃ q ∈ w, q.1 = p.1 := fun p hp => by
      have := l2.subset (List.mem_map.mpr ⟨p, hp, rfl⟩)
      obtain ⟨q, hq, e⟩ := List.mem_map.mp this
      exact ⟨q, hq, e⟩
    have hpk : POk n 999 cs := ⟨fun p hp => by
      obtain ⟨q, hq, e⟩ := hkey p hp
      exact ⟨by rw [← e]; exact (h3.el q hq).1, (l3 p hp).1, (l3 p hp).2.1⟩, by
      have := List.Pairwise.sublist l2 (List.pairwise_map.mpr h3.inc)
      exact List.pairwise_map.mp this⟩
    have hok : (Rung.shares w cs).Ok n := ⟨h2, h3, hpk, hkey⟩
    refine ⟨.shares w cs, ws3, ?_, hok, fun z => ?_, t3⟩
    · unfold F__law_rung
      simp only [B__law_rung]
      have e0 : startT 9 [scD ns, iD n, iD kk] = [some (.d (scD ns)), some .town, some (.d (iD n)), some (.d (iD kk)), none, none, none, none, none] := rfl
      have hkz : ¬ (kk : Int) = 0 := by omega
      rw [runT_s, e0]
      simp only [sSeq_s]
      rw [show sIf (bOf (eBin eqD (eVar 3) (eC (.int 0)))) (sRet (eTup (aCons (eC (.str "fixed")) (aCons (eCallT 2 F__law_pairs (eVar 0) 1 (aCons (eVar 2) (aCons (eFrz (lLst (aCons (eC (.int 1)) (aCons (eC (.int 2)) (aCons (eC (.int 3)) (aCons (eC (.int 5)) (aCons (eC (.int 10)) (aCons (eC (.int 20)) (aCons (eC (.int 100)) (aCons (eC (.int 999)) aNil)))))))))) aNil))) aNil)))) sPass [some (.d (scD ns)), some .town, some (.d (iD n)), some (.d (iD kk)), none, none, none, none, none] (some ws) = .nx [some (.d (scD ns)), some .town, some (.d (iD n)), some (.d (iD kk)), none, none, none, none, none] (some ws) by simp [h0]]
      simp only
      rw [show sAsg 4 (eCallT 2 F__law_pairs (eVar 0) 1 (aCons (eVar 2) (aCons (eFrz (lLst (aCons (eC (.int 1)) (aCons (eC (.int 1)) (aCons (eC (.int 2)) (aCons (eC (.int 3)) (aCons (eC (.int 4)) (aCons (eC (.int 20)) aNil)))))))) aNil))) [some (.d (scD ns)), some .town, some (.d (iD n)), some (.d (iD kk)), none, none, none, none, none] (some ws) = .nx [some (.d (scD ns)), some .town, some (.d (iD n)), some (.d (iD kk)), some (.d (prs w)), none, none, none, none] (some ws1) by simp [h1]]
      simp only
      rw [sAsg_s, f1]
      simp [l1, rd]
      rfl
    · obtain ⟨p, hp, e⟩ := f2 z
      refine decide_eq_true ((endless_iff hok).mpr ⟨p, hp, lk_none.mpr fun q hq e2 => (l3 q hq).2.2 ?_⟩)
      rw [e]; omega
theorem ladder_ok {most m : Nat} {ws : List Dt} (hl : ns.length ≤ 63) (h1 : 1 ≤ most) (h5 : most ≤ 5) (t : Tn ns (m + 100) ws) :
    ∃ (l : Lad) (ws' : List Dt), F__law_ladder [scD ns, iD most] ws = .ok (ld l, ws') ∧ l.Ok ∧ l.n ≤ most ∧ Tn ns m ws' := by
  obtain ⟨d, ws1, hd, hd2, t1⟩ := draw_ok (L := most) (m := m + 99) hl (by omega) (Nat.lt_of_le_of_lt h5 (by decide)) t
  obtain ⟨e, ws2, he, he2, t2⟩ := draw_ok (L := 4) (m := m + 98) hl (by decide) (by decide) t1
  have he : F__law_draw [scD ns, .int 4] ws1 = .ok (iD e, ws2) := he
  obtain ⟨n, hn⟩ : ∃ n, n = 1 + d := ⟨_, rfl⟩
  have hnD : (1 : Int) + (d : Int) = (n : Int) := by omega
  obtain ⟨ys, ws3, c1, c2, c3, c4⟩ := cL_tw1 (ns := ns) (g := gN 5) (e := cE__law_ladder_1) (ρ0 := [some (.d (scD ns)), some .town, some (.d (iD most)), some (.d (iD n)), none, none]) iD 23 (fun x v => ∃ r : Rung, v = rd r ∧ r.Ok n) (List.range e) (m + 22) ws2 (t2.mono (by simp; omega)) (by
    intro x hx m ws t
    obtain ⟨k, w1, q1, q2, t3⟩ := draw_ok (L := 2) (m := m + 22) hl (by decide) (by decide) t
    have q1 : F__law_draw [scD ns, .int 2] ws = .ok (iD k, w1) := q1
    obtain ⟨r, w2, r1, r2, _, t4⟩ := rung_draw (n := n) (kk := k) hl (by omega) (by omega) (by omega) t3
    refine ⟨_, rd r, w2, by simp; rfl, ?_, ⟨r, rfl, r2⟩, t4⟩
    simp [cE__law_ladder_1, q1, r1])
  obtain ⟨r, ws4, r1, r2, r3, t4⟩ := rung_draw (n := n) (kk := 2) (m := m) hl (by omega) (by omega) (by omega) c4
  have r1 : F__law_rung [scD ns, .int (n : Int), .int 2] ws3 = .ok (rd r, ws4) := r1
  have hex : ∃ rs : List Rung, ys.map (·.2) = rs.map rd ∧ rs.length = ys.length ∧ ∀ q ∈ rs, q.Ok n := by
    clear c1 c2
    induction ys with
    | nil => exact ⟨[], rfl, rfl, fun p hp => by cases hp⟩
    | cons z zs ih =>
      obtain ⟨rs, q1, q2, q3⟩ := ih fun y hy => c3 y (List.mem_cons_of_mem _ hy)
      obtain ⟨q, e, hq⟩ := c3 z (by simp)
      refine ⟨q :: rs, by rw [List.map_cons, List.map_cons, q1, e], by rw [List.length_cons, List.length_cons, q2], fun r hr => ?_⟩
      rcases List.mem_cons.mp hr with y | y
      · rw [y]; exact hq
      · exact q3 r y
  obtain ⟨rs, q1, q2, q3⟩ := hex
  have hlen : rs.length ≤ 3 := by
    have := congrArg List.length c2
    rw [List.length_map, List.length_range] at this
    omega
  rw [q1] at c1
  refine ⟨⟨n, rs ++ [r]⟩, ws4, ?_, ⟨by show 1 ≤ n; omega, by show n ≤ 5; omega, by simp, by simp; omega, fun q hq => ?_, r, by simp, r3 rfl⟩, by show n ≤ most; omega, t4⟩
  · have hadd : addD (.tuple (rs.map rd)) (.tuple [rd r]) = some (.tuple ((rs ++ [r]).map rd)) := by
      show (if (rs.map rd).length + [rd r].length ≤ 100000 then some (PyData.tuple (rs.map rd ++ [rd r])) else none) = _
      rw [if_pos (by simp; omega), List.map_append]; rfl
    unfold F__law_ladder
    simp only [B__law_ladder]
    have hr := rngOf_n (n := e) (by omega)
    simp [hd, hnD, he, hr, wipeOk, show e ≤ 100000 by omega, c1, r1, hadd, ld]
  · rcases List.mem_append.mp hq with z | z
    · exact q3 q z
    · rw [List.mem_singleton.mp z]; exact r2
end
end Sx

namespace Sx
open PySem PySem.Spec PyProof.Rows L2 Mx
theorem sSeq_ex {a b : SS} {ρ ρ1 : Sl} {W W1 : Tw} {r : SV} (h : a ρ W = .nx ρ1 W1) (k : ∃ W', b ρ1 W1 = .rt r W') : ∃ W', sSeq a b ρ W = .rt r W' := by
  obtain ⟨W', k⟩ := k
  exact ⟨W', by rw [sSeq_s, h]; exact k⟩
theorem runP_ex {m : Nat} {B : SS} {ds : List Dt} {x : Dt} (h : ∃ W', B (start0 m ds) none = .rt (.d x) W') : runP m B ds = .ok x := by
  obtain ⟨W', h⟩ := h
  rw [runP_s, h]
end Sx

namespace Mx
end Mx
namespace Sx
open PySem PySem.Spec PyProof.Rows L2 Mx
@[simp] theorem shaped_bool {b : Bool} : SeqAt.shaped (.bool b) = true := shaped_flt (k := 0) rfl (by decide)
@[simp] theorem eqD_b {a b : Bool} : eqD (.bool a) (.bool b) = some (.bool (a == b)) := by
  cases a <;> cases b <;> rfl
@[simp] theorem neD_b {a b : Bool} : neD (.bool a) (.bool b) = some (.bool (!(a == b))) := by
  cases a <;> cases b <;> rfl
@[simp] theorem addD_ll {a b : List Dt} : addD (.list a) (.list b) = if a.length + b.length ≤ 100000 then some (.list (a ++ b)) else none := rfl
@[simp] theorem addD_tt {a b : List Dt} : addD (.tuple a) (.tuple b) = if a.length + b.length ≤ 100000 then some (.tuple (a ++ b)) else none := rfl
end Sx

namespace Mx
/-! signs of a difference, directly after an amount -/
def sgn (q : Rat) : Int := if 0 < q then 1 else if q < 0 then -1 else 0
/-- the sign directly after an amount -/
def RS (D : Rat → Rat) (x : Rat) (s : Int) : Prop := ∃ e, x < e ∧ ∀ y, x < y → y < e → sgn (D y) = s
/-! lists of signs -/
end Mx

namespace Mx
/-! what lists of signs say -/
/-! where two ladders part -/
def PT (D : Nat → Rat → Rat) (n : Nat) : Option Rat → Prop
  | none => ∀ h, h < n → ∀ x, 0 ≤ x → RS (D h) x 0
  | some t => 0 ≤ t ∧ (∀ h, h < n → ∀ x, 0 ≤ x → x < t → RS (D h) x 0) ∧ ∃ h, h < n ∧ ∃ s, s ≠ 0 ∧ RS (D h) t s
end Mx

namespace Sx
open PySem PySem.Spec PyProof.Rows L2 Mx
/-! slices -/
@[simp] theorem slice_l {ds : List Dt} {lo hi} : sliceD (.list ds) lo hi = some (.list (cutD ds lo hi)) := rfl
@[simp] theorem slice_t {ds : List Dt} {lo hi} : sliceD (.tuple ds) lo hi = some (.tuple (cutD ds lo hi)) := rfl
/-! signs -/
/-! the rate after an amount, by rows -/
/-! in order -/
end Sx

namespace Mx
/-! of two ladders -/
end Mx
namespace Sx
open PySem PySem.Spec PyProof.Rows L2 Mx
/-! points between starts -/
def trip (s a : Rat) : List Rat := [s + (a - s) * 0, s + (a - s) * mkRat 1 3, s + (a - s) * mkRat 1 2]
end Sx

namespace Mx
/-! ### simple ladders with options: the ladder with a choice -/
structure Smp where
  n : Nat
  fs : List (List (Nat × Nat))
  w : List (Nat × Nat)
  c : List (Nat × Nat)
  os : List (Nat × Nat)
section
variable {s : Smp}
end
end Mx

namespace Sx
open PySem PySem.Spec PyProof.Rows L2 Mx
/-! evaluation of what Sx18 to Sx22 bring -/
section
variable {ρ : Sl} {W : Tw} {i : Nat} {k e fk fz : SE} {x : Dt}
end
/-! choices -/
theorem neD_nilT {ds : List Dt} {k : Nat} (h : flts k ds = true) (hk : k ≤ 60) : neD (.tuple ds) (.tuple []) = some (.bool (!ds.isEmpty)) := by
  unfold neD
  rw [shaped_flt (d := .tuple ds) (k := k + 1) h (by omega)]
  cases ds <;> rfl
end Sx

namespace Sx
open PySem PySem.Spec PyProof.Rows L2 Mx
section
variable {s : Smp} {ch : List Nat}
@[simp] theorem gTu_fixed {f : List (Nat × Nat)} {gs : SGs} {ρ : Sl} : gTu 2 gs (rd (.fixed f)) ρ = gs [.str "fixed", prs f] ρ := by rfl
@[simp] theorem gTu_shares {w c : List (Nat × Nat)} {gs : SGs} {ρ : Sl} : gTu 3 gs (rd (.shares w c)) ρ = gs [.str "shares", prs w, prs c] ρ := by rfl
end
end Sx

namespace Sx
open PySem PySem.Spec PyProof.Rows L2 Mx
section
variable {s : Smp} {ch : List Nat}
@[simp] theorem mulD_l0 {x : Dt} : mulD (.list [x]) (.int 0) = some (.list []) := by rfl
@[simp] theorem mulD_l1 {x : Dt} : mulD (.list [x]) (.int 1) = some (.list [x]) := by rfl
end
end Sx

namespace Mx
/-! ### all choices -/
end Mx
namespace Sx
open PySem PySem.Spec PyProof.Rows L2 Mx
@[simp] theorem ne_fixed : neD (.str "fixed") (.str "fixed") = some (.bool false) := neD_str (k := true) (by decide +kernel) (by decide +kernel) (by decide +kernel)
section
variable {s : Smp} {ch : List Nat}
end
end Sx

namespace Sx
open PySem PySem.Spec PyProof.Rows L2 Mx
/-! data that is equal to itself, with texts -/
def Gq (k : Nat) (d : Dt) : Prop := d.canLay0 = true ∧ d.depth ≤ k ∧ PyData.eqv d d = true
def Gqs (k : Nat) (ds : List Dt) : Prop := PyData.canLayAll0 ds = true ∧ PyData.depthAll ds ≤ k ∧ PyData.eqvAll ds ds = true
theorem Gqs.nil {k : Nat} : Gqs k [] := ⟨rfl, Nat.zero_le _, rfl⟩
theorem Gqs.cons {k : Nat} {d : Dt} {ds : List Dt} (h : Gq k d) (t : Gqs k ds) : Gqs k (d :: ds) :=
  ⟨by show (PyData.canLay0 d && PyData.canLayAll0 ds) = true; rw [h.1, t.1]; rfl, Nat.max_le.mpr ⟨h.2.1, t.2.1⟩, by
    show (PyData.eqv d d && PyData.eqvAll ds ds) = true
    rw [h.2.2, t.2.2]; rfl⟩
theorem Gq.tup {k : Nat} {ds : List Dt} (h : Gqs k ds) : Gq (k + 1) (.tuple ds) := ⟨h.1, Nat.succ_le_succ h.2.1, h.2.2⟩
theorem Gqs.map {α : Type} {k : Nat} {f : α → Dt} : ∀ {xs : List α}, (∀ x ∈ xs, Gq k (f x)) → Gqs k (xs.map f)
  | [], _ => .nil
  | x :: xs, h => .cons (h x (by simp)) (Gqs.map fun y hy => h y (List.mem_cons_of_mem _ hy))
theorem Gq.flt {k : Nat} {d : Dt} (h : flt k d = true) : Gq k d := ⟨(flt_ok d k h).1, (flt_ok d k h).2, eqv_refl d k h⟩
theorem Gq.int {k : Nat} {i : Int} : Gq k (.int i) := .flt (by cases k <;> rfl)
theorem Gq.fixed {k : Nat} : Gq k (.str "fixed") := ⟨by decide +kernel, Nat.zero_le _, by decide +kernel⟩
theorem Gq.shares {k : Nat} : Gq k (.str "shares") := ⟨by decide +kernel, Nat.zero_le _, by decide +kernel⟩
theorem Gq.prs {k : Nat} {ps : List (Nat × Nat)} : Gq (k + 2) (prs ps) := .tup (.map fun p _ => .flt flt_pr)
theorem Gq.rd {k : Nat} {r : Rung} : Gq (k + 3) (rd r) := by
  cases r with
  | fixed s => exact .tup (.cons .fixed (.cons .prs .nil))
  | shares w c => exact .tup (.cons .shares (.cons .prs (.cons .prs .nil)))
theorem Gq.ld {k : Nat} {l : Lad} : Gq (k + 5) (ld l) := .tup (.cons .int (.cons (.tup (.map fun r _ => .rd)) .nil))
theorem Gq.sh {k : Nat} {d : Dt} (h : Gq k d) (hk : k ≤ 64) : SeqAt.shaped d = true := by
  unfold SeqAt.shaped
  rw [h.1, decide_eq_true (Nat.le_trans h.2.1 hk)]; rfl
theorem Gq.ne {k : Nat} {d : Dt} (h : Gq k d) (hk : k ≤ 64) : neD d d = some (.bool false) := by
  unfold neD
  rw [h.sh hk, h.2.2]; rfl
end Sx

namespace Mx
/-! ### a ladder of fixed rungs and shares without caps, for great amounts -/
def hv (h : Nat) (f : List (Nat × Nat)) : Nat := (lk f h).getD 0
/-! sums -/
section
variable {n h u : Nat} {fs : List (List (Nat × Nat))} {w : List (Nat × Nat)}
end
/-! the edge, as plain numbers -/
section
variable {O F A B t e y : Rat}
end
end Mx

namespace Mx
/-! ### known ladders: two pieces -/
section
variable {n w : Nat}
abbrev r2o (w : Nat) : Nat → Rat := rt [(0, 1), (1, w)] (wsum [(0, 1), (1, w)] : Rat)
theorem ws1 : wsum [(0, n)] = n := by show n + 0 = n; rfl
theorem ws2 : wsum [(0, 1), (1, w)] = w + 1 := by show 1 + (w + 0) = w + 1; omega
theorem r2_0 : r2o w 0 = 1 / ((w + 1 : Nat) : Rat) := by
  show ((1 : Nat) : Rat) / (wsum [(0, 1), (1, w)] : Rat) = _
  rw [ws2]; rfl
theorem r2_1 : r2o w 1 = (w : Rat) / ((w + 1 : Nat) : Rat) := by
  show (w : Rat) / (wsum [(0, 1), (1, w)] : Rat) = _
  rw [ws2]
/-- the parts: a + b = 1, both positive -/
theorem parts (hw : 1 ≤ w) : ∃ a b : Rat, r2o w 0 = a ∧ r2o w 1 = b ∧ a + b = 1 ∧ 0 < a ∧ 0 < b ∧ b = (w : Rat) * a ∧ a * ((w : Rat) + 1) = 1 := by
  have hp : (0 : Rat) < ((w + 1 : Nat) : Rat) := Rat.natCast_pos.mpr (by omega)
  have hv : (0 : Rat) < (w : Rat) := Rat.natCast_pos.mpr hw
  have h1 : (1 / ((w + 1 : Nat) : Rat)) * ((w + 1 : Nat) : Rat) = 1 := Rat.div_mul_cancel (by grind)
  have h2 : (w : Rat) / ((w + 1 : Nat) : Rat) = (w : Rat) * (1 / ((w + 1 : Nat) : Rat)) := by rw [Rat.div_def, Rat.div_def]; grind
  have h3 : (0 : Rat) < 1 / ((w + 1 : Nat) : Rat) := div_pos (by decide) hp
  refine ⟨_, _, r2_0, r2_1, ?_, h3, div_pos hv hp, h2, ?_⟩
  · rw [h2]
    rw [Rat.natCast_add] at h1 ⊢
    have : ((1 : Nat) : Rat) = 1 := rfl
    rw [this] at h1 ⊢
    grind
  · rw [Rat.natCast_add] at h1 ⊢
    have : ((1 : Nat) : Rat) = 1 := rfl
    rw [this] at h1 ⊢
    exact h1
/-! the cap -/
/-! one who may change -/
end
end Mx

namespace Sx
open PySem PySem.Spec PyProof.Rows L2
/-! ### x.count(b), x.index(b): lists of bools, of texts -/
def strsOf : List Dt → Option (List Str)
  | [] => some []
  | .str z :: r => (strsOf r).map (z :: ·)
  | _ => none
def cntD (l x : Dt) : Option Dt := match l, x with
  | .list ds, .bool b => (blsOf ds).map fun bs => .int (bs.count b : Nat)
  | _, _ => none
def idxD (l x : Dt) : Option Dt := match l, x with
  | .list ds, .bool b => (blsOf ds).bind fun bs => if b ∈ bs then some (.int (bs.idxOf b : Nat)) else none
  | .list ds, .str z => (strsOf ds).bind fun zs => if z ∈ zs then some (.int (zs.idxOf z : Nat)) else none
  | _, _ => none
theorem bls_vals {K : PySem.W.Frag} {F : Hp} : ∀ {vs : List V} {ds : List Dt} {bs : List Bool}, DqAll K F vs ds → blsOf ds = some bs → vs = bs.map V.bl
  | _, _, _, .nil, h => by cases h; rfl
  | _, _, _, .cons (d := d) g t, h => by
    cases d <;> simp only [blsOf] at h <;> try (cases h; done)
    rename_i ds b
    cases hb : blsOf ds with
    | none => rw [hb] at h; cases h
    | some r =>
      rw [hb] at h
      cases h
      cases g
      rw [List.map_cons, bls_vals t hb]
theorem strs_vals {K : PySem.W.Frag} {F : Hp} : ∀ {vs : List V} {ds : List Dt} {bs : List Str}, DqAll K F vs ds → strsOf ds = some bs → vs = bs.map V.str
  | _, _, _, .nil, h => by cases h; rfl
  | _, _, _, .cons (d := d) g t, h => by
    cases d <;> simp only [strsOf] at h <;> try (cases h; done)
    rename_i ds b
    cases hb : strsOf ds with
    | none => rw [hb] at h; cases h
    | some r =>
      rw [hb] at h
      cases h
      cases g
      rw [List.map_cons, strs_vals t hb]
theorem bls_items {A : Around} {s : Shared} {b : Bool} : ∀ {us : List Value} {bs : List Bool}, Vals (bs.map V.bl) us → us = bs.map Value.bool
  | _, [], h => by cases h; rfl
  | _, a :: bs, h => by
    cases h with
    | cons r t => rw [List.map_cons, ← bls_items (A := A) (s := s) (b := b) t]; cases r; rfl
theorem bls_eq {A : Around} {s : Shared} {b : Bool} {us : List Value} {bs : List Bool} (h : us = bs.map Value.bool) : SeqAt.ItemsEq A s us bs (.bool b) b := by
  subst h
  refine ⟨by simp, fun j h1 h2 => ?_⟩
  rw [List.getElem_map]
  have := SeqAt.EqAt.bool_bool (A := A) (s := s) bs[j] b
  rw [show decide (bs[j] = b) = (bs[j] == b) by cases bs[j] <;> cases b <;> rfl]
  exact this
theorem strs_eq {A : Around} {s : Shared} {z : Str} {t : Tok} : ∀ {us : List Value} {zs : List Str}, Vals (zs.map V.str) us → SeqAt.ItemsEq A s us zs (.str z t) z
  | _, [], h => by cases h; exact ⟨rfl, fun j h1 _ => absurd h1 (by simp)⟩
  | _, a :: zs, h => by
    cases h with
    | cons r tl =>
      obtain ⟨t', rfl⟩ := r
      obtain ⟨i1, i2⟩ := strs_eq (A := A) (s := s) (z := z) (t := t) tl
      refine ⟨by simp [i1], fun j h1 h2 => ?_⟩
      cases j with
      | zero =>
        have := SeqAt.EqAt.str_str (A := A) (s := s) a t' z t
        rw [show decide ((a :: zs)[0] = z) = (a == z) by rw [Bool.eq_iff_iff]; simp]
        exact this
      | succ j => exact i2 j (by simpa using h1) (by simpa using h2)
/-- a method with one argument that reads data -/
def RM2 (K : PySem.W.Frag) (g : Dt → Dt → Option Dt) : V → List V → Hp → VK → Prop := fun x xs H Q => ∃ y, xs = [y] ∧ RD2 K g x y H Q
theorem RB.sql {K : PySem.W.Frag} {F H : Hp} {x : V} {ds : List Dt} (sm : Same F H) (h : RB K F H x (.list ds)) : ∃ p vs, x = .ref p ∧ SqL K H p vs ∧ DqAll K F vs ds := by
  rcases h with h | ⟨p, vs, ds', rfl, e, hp, ha⟩
  · cases h with
    | lst hs ha => exact ⟨_, _, rfl, sm.seq hs, ha⟩
  · cases e
    exact ⟨p, vs, rfl, .inl (.inl hp), ha⟩
theorem RB.st {K : PySem.W.Frag} {F H : Hp} {x : V} {b : Str} (h : RB K F H x (.str b)) : x = .str b := by
  rcases h with h | ⟨p, vs, ds', rfl, e, hp, ha⟩
  · cases h; rfl
  · cases e
section
variable {X : Cx}
theorem mt_index : MtR X "list.index" (RM2 X.K idxD) := by
  intro pins s σ H x xs v us Q I rx rxs h
  obtain ⟨y, rfl, F, d, e, z, sm, hx, hy, hg, q⟩ := h
  obtain ⟨u, rfl, ru⟩ := rxs.one
  cases d <;> simp only [idxD] at hg <;> try (cases hg; done)
  rename_i ds
  obtain ⟨p, vs, rfl, hs, ha⟩ := hx.sql sm
  cases rx
  obtain ⟨its, rv, hL, hz⟩ := I.list hs
  cases e <;> simp only at hg <;> try (cases hg; done)
  · rename_i b
    obtain rfl := hy.bl
    cases ru
    cases hb : blsOf ds with
    | none => rw [hb] at hg; cases hg
    | some bs =>
      rw [hb] at hg
      simp only [Option.bind_some] at hg
      by_cases hm : b ∈ bs
      · rw [if_pos hm] at hg
        cases hg
        obtain rfl := bls_vals ha hb
        have hi := bls_items (A := X.A) (s := s) (b := b) rv
        refine SeqAt.call_list_index (ks := bs) (k := b) hL.isList (bls_eq hi) (by rw [List.length_map] at hz; exact hz) hm ?_
        exact ⟨.int (bs.idxOf b : Nat), H, I.tok _, ⟨s.toks, rfl⟩, end_int sm rfl q⟩
      · rw [if_neg hm] at hg; cases hg
  · rename_i b
    obtain rfl := hy.st
    obtain ⟨t, rfl⟩ := ru
    cases hb : strsOf ds with
    | none => rw [hb] at hg; cases hg
    | some bs =>
      rw [hb] at hg
      simp only [Option.bind_some] at hg
      by_cases hm : b ∈ bs
      · rw [if_pos hm] at hg
        cases hg
        obtain rfl := strs_vals ha hb
        refine SeqAt.call_list_index (ks := bs) (k := b) hL.isList (strs_eq rv) (by rw [List.length_map] at hz; exact hz) hm ?_
        exact ⟨.int (bs.idxOf b : Nat), H, I.tok _, ⟨s.toks, rfl⟩, end_int sm rfl q⟩
      · rw [if_neg hm] at hg; cases hg
theorem mt_count : MtR X "list.count" (RM2 X.K cntD) := by
  intro pins s σ H x xs v us Q I rx rxs h
  obtain ⟨y, rfl, F, d, e, z, sm, hx, hy, hg, q⟩ := h
  obtain ⟨u, rfl, ru⟩ := rxs.one
  cases d <;> simp only [cntD] at hg <;> try (cases hg; done)
  rename_i ds
  obtain ⟨p, vs, rfl, hs, ha⟩ := hx.sql sm
  cases rx
  obtain ⟨its, rv, ⟨⟨cls, dd, data, sl⟩, n, ho, hc, hdn, hd⟩, hz⟩ := I.list hs
  simp only at hc hd
  subst hc hd
  cases e <;> simp only at hg <;> try (cases hg; done)
  rename_i b
  obtain rfl := hy.bl
  cases ru
  cases hb : blsOf ds with
  | none => rw [hb] at hg; cases hg
  | some bs =>
    rw [hb] at hg
    cases hg
    obtain rfl := bls_vals ha hb
    have hi := bls_items (A := X.A) (s := s) (b := b) rv
    subst hi
    refine call_meets PySem.F.slot_list_count ⟨_, ho, rfl⟩ PySem.F.entry_list_count (PySem.F.args_list_count_2 _ _)
      (SeqAt.list_countAt p _ n dd sl (.bool b) (fun y => match y with | .bool a => a == b | _ => false)) ⟨ho, fun y hy => ?_, ?_⟩
    · obtain ⟨a, _, rfl⟩ := List.mem_map.mp (show y ∈ bs.map Value.bool by simpa using hy)
      exact SeqAt.EqAt.bool_bool a b
    · have ec : ∀ bs : List Bool, (bs.map Value.bool).countP (fun y => match y with | .bool a => a == b | _ => false) = bs.count b := fun bs => by
        rw [List.countP_map]; rfl
      refine ⟨.int (bs.count b : Nat), H, I.tok _, ⟨s.toks, ?_⟩, end_int sm rfl q⟩
      show Value.int (((bs.map Value.bool).toArray.toList.countP (fun y => match y with | .bool a => a == b | _ => false) : Nat) : Int) s.toks = _
      rw [show (bs.map Value.bool).toArray.toList = bs.map Value.bool by simp, ec]
end
def isLst : Dt → Bool
  | .list _ => true
  | _ => false
def eMth (g : Dt → Dt → Option Dt) (a b : SE) : SE := fun ρ W => (a ρ W).bind fun p => if isLst p.1 = true then (b ρ p.2).bind fun q => ofO (g p.1 q.1) q.2 else .bad
section
variable {X : Cx} {XE : Str → Hp → Prop} {o e : Expr} {apos cpos : Pos} {fa fb : SE}
theorem d_mth {name : Str} {id : String} {g : Dt → Dt → Option Dt} (slot : Slot "list" name id) (hty : typeOf (.builtin id) = pure (.type "method_descriptor")) (hm : MtR X id (RM2 X.K g)) (ha : PE X o (tE X.K XE fa)) (hb : PE X e (tE X.K XE fb))
    (hbase : attributeBase o name X.env (eval o X.env) = eval o X.env := by rfl)
    (hfew : ((backTo cpos (starEach [e] X.env)).all (fun x => !x.1) && (backToKw cpos (keywordEach [] X.env)).all (fun x => x.1.isSome)
      && decide (([e]).length + ([] : List Keyword).length + (if ([] : List Keyword).isEmpty then 0 else 1) < 30)) = true := by rfl)
    (hline : (apos.endLine == cpos.line) = true := by rfl) (hs : starEach [e] X.env = (false, eval e X.env) :: starEach [] X.env := by rfl) (hplain : (backTo cpos (starEach [] X.env)).any (·.1) = false := by rfl) :
    PE X (.Call (.Attribute o name apos) [e] [] cpos) (tE X.K XE (eMth g fa fb)) := by
  refine (pe_bm (T := "list") (id := id) PySem.F.plainAttrs_list slot hty hm ha (pa_cons hb pa_nil hs) hbase hfew hline hs hplain).weak fun σ H Q ⟨G, ρ, W, F, R, p⟩ => ?_
  refine ⟨G, ρ, W, F, R, p.of_bind.mono fun d W1 q v F1 H1 s1 R1 hv => ?_⟩
  obtain ⟨hl, q⟩ := Pg.of_ite q
  have hty : tyV X.K "list" v H1 := by
    cases d <;> try (cases hl; done)
    cases hv with
    | lst hs ha => exact .inl ⟨rfl, _, R1.fh.seq hs⟩
  refine ⟨hty, G, ρ, W1, F1, R1, q.of_bind.mono fun e2 W2 q2 y F2 H2 s2 R2 hy => ?_⟩
  obtain ⟨z, hz, q3⟩ := q2.of_ofO
  exact ⟨y, rfl, F2, d, e2, z, R2.fh, .inl (hv.mono s2), .inl hy, hz, fun w F' H' g0 hw => q3 w F' H' ((s1.trans s2).trans g0.ff) (R2.grow g0) hw⟩
theorem d_index (ha : PE X o (tE X.K XE fa)) (hb : PE X e (tE X.K XE fb)) (hbase : attributeBase o "index" X.env (eval o X.env) = eval o X.env := by rfl)
    (hfew : ((backTo cpos (starEach [e] X.env)).all (fun x => !x.1) && (backToKw cpos (keywordEach [] X.env)).all (fun x => x.1.isSome)
      && decide (([e]).length + ([] : List Keyword).length + (if ([] : List Keyword).isEmpty then 0 else 1) < 30)) = true := by rfl)
    (hline : (apos.endLine == cpos.line) = true := by rfl) (hs : starEach [e] X.env = (false, eval e X.env) :: starEach [] X.env := by rfl) (hplain : (backTo cpos (starEach [] X.env)).any (·.1) = false := by rfl) :
    PE X (.Call (.Attribute o "index" apos) [e] [] cpos) (tE X.K XE (eMth idxD fa fb)) := d_mth PySem.F.slot_list_index PySem.F.type_list_index mt_index ha hb hbase hfew hline hs hplain
theorem d_count (ha : PE X o (tE X.K XE fa)) (hb : PE X e (tE X.K XE fb)) (hbase : attributeBase o "count" X.env (eval o X.env) = eval o X.env := by rfl)
    (hfew : ((backTo cpos (starEach [e] X.env)).all (fun x => !x.1) && (backToKw cpos (keywordEach [] X.env)).all (fun x => x.1.isSome)
      && decide (([e]).length + ([] : List Keyword).length + (if ([] : List Keyword).isEmpty then 0 else 1) < 30)) = true := by rfl)
    (hline : (apos.endLine == cpos.line) = true := by rfl) (hs : starEach [e] X.env = (false, eval e X.env) :: starEach [] X.env := by rfl) (hplain : (backTo cpos (starEach [] X.env)).any (·.1) = false := by rfl) :
    PE X (.Call (.Attribute o "count" apos) [e] [] cpos) (tE X.K XE (eMth cntD fa fb)) := d_mth PySem.F.slot_list_count PySem.F.type_list_count mt_count ha hb hbase hfew hline hs hplain
end
end Sx

namespace Sx
open PySem PySem.Spec PyProof.Rows L2
/-! ### exceptions: raise, calls that may raise -/
def XEof (mg : Str → Option Value) (E : XK) : Str → Hp → Prop := fun c H => ∃ C, mg c = some (.ref C) ∧ E (.ref C) none H
/-- what XE wants of an exception is taken by the context -/
def TkX (X : Cx) (XE : Str → Hp → Prop) : Prop := ∃ W : WX, Takes X W ∧ ∀ c σ H, XE c H → ∃ C, X.mg c = some (.ref C) ∧ W (.ref C) none σ H
def spX (K : PySem.W.Frag) (mg : Str → Option Value) (n : Nat) (Fs : List Dt → Res Dt) : Sp := fun vs H Q E => ∃ F ds, Same F H ∧ TabsF (tabsOf K) F H ∧ DqAll K F vs ds ∧ ds.length = n ∧ match Fs ds with
  | .ok r => ∀ v F' H', Gr0 K F H F' H' → Dq K F' v r → Q v H'
  | .exc c => ∀ F' H', Gr0 K F H F' H' → XEof mg E c H'
  | .bad => False
def resX {α : Type} : Res α → Tw → Res (α × Tw)
  | .ok r, W => .ok (r, W)
  | .exc c, _ => .exc c
  | .bad, _ => .bad
def eCallX (n : Nat) (Fs : List Dt → Res Dt) (a : SA) : SE := fun ρ W => (a ρ W).bind fun p => if p.1.length = n then resX (Fs p.1) p.2 else .bad
def sRaise (c : Str) : SS := fun _ _ => .exc c
def CalX (P : Program) (w : World) (K : PySem.W.Frag) (mg : Str → Option Value) (base : Heap) (x : Str) (k n : Nat) (ps : List Str) (Fs : List Dt → Res Dt) : Prop :=
  ∃ f fd, FnOk P w K mg base (L2.CX P w) k f fd ps (spX K mg n Fs) ∧ mg x = some (.ref f) ∧ PySem.W.keepIn K (.ref f) = true ∧ Binds K fd ps []
/-- an own class of exceptions -/
structure OwnE (K : PySem.W.Frag) (mg : Str → Option Value) (c : Str) : Prop where
  ex : ∃ C, mg c = some (.ref C) ∧ PySem.W.excIn K C He.veBase "ValueError.__new__" = true ∧ PySem.W.keepIn K (.ref C) = true ∧ PySem.W.subIn K (.ref C) (.type "BaseException") = some true ∧ PySem.W.typeIn K (.ref C) = some (.type "type")
theorem Rel.gr0 {K : PySem.W.Frag} {G : Gh} {ρ : Sl} {W : Tw} {σ : L2.St} {F H : Hp} (R : Rel K G ρ W σ F H) : Gr G.K G.tm G.F0 G.H0 F H := by rw [R.kk]; exact R.gr
section
variable {X : Cx} {XE : Str → Hp → Prop} {e a : Expr} {es : List Expr} {pos p pt p2 cpos : Pos} {fa : SE} {ga : SA} {k n j : Nat} {f : Addr} {fd : FuncData} {ps : List Str} {x t c m : Str}
theorem s_raise (hc : X.calm = true) (tk : TkX X XE) (O : OwnE X.K X.mg c) (hg : Gl X c) (hdb : (c == ("__debug__" : Str)) = false := by decide) :
    PS X (.Raise (some (.Call (.Name c p) [.Constant (.str m) j p2] [] cpos)) none pos) (tS X.K XE (sRaise c)) := by
  obtain ⟨W, tw, hW⟩ := tk
  obtain ⟨C, gC, h1, h2, h3, h4⟩ := O.ex
  refine (ps_raise (W := W) hc tw (pmk_own (C := C) PySem.F.excBase_ValueError h1 gC h2 (raises_own h3 h4) hg hdb)).weak fun D σ H ⟨G, ρ, Wt, F, R, q⟩ => ?_
  obtain ⟨C', g', w'⟩ := hW c σ H (q F H R.gr0)
  rw [gC] at g'
  cases g'
  exact w'
theorem d_callE {Fs : List Dt → Res Dt} (F : FnOk X.prog X.w X.K X.mg X.base (L2.CX X.prog X.w) k f fd ps (spX X.K X.mg n Fs)) (hr : Room k X.A) (hg : Gl X x) (hm : X.mg x = some (.ref f)) (hk : PySem.W.keepIn X.K (.ref f) = true) (hb : Binds X.K fd ps []) (tk : TkX X XE) (ha : PA X (e :: es) (tA X.K XE ga))
    (hdb : (x == ("__debug__" : Str)) = false := by decide) (he : starEach (e :: es) X.env = (false, eval e X.env) :: starEach es X.env := by rfl) (hpl : (backTo pos (starEach es X.env)).any (·.1) = false := by rfl) :
    PE X (.Call (.Name x p) (e :: es) [] pos) (tE X.K XE (eCallX n Fs ga)) := by
  obtain ⟨W, tw, hW⟩ := tk
  refine (pe_callS (E := WE W) F hr hg hm hk hb (passAt tw) ha hdb he hpl).weak fun σ H Q ⟨G, ρ, Wt, Fz, R, q⟩ => ?_
  refine ⟨G, ρ, Wt, Fz, R, q.of_bind.mono fun ds W1 q vs F1 H1 s1 R1 hv => ?_⟩
  obtain ⟨hl, q⟩ := Pg.of_ite q
  refine ⟨F1, ds, R1.fh, R1.tb, hv, hl, ?_⟩
  cases hF : Fs ds with
  | ok r =>
    rw [hF] at q
    exact fun v F' H' g hw => q v F' H' (s1.trans g.ff) (R1.grow g) hw
  | exc c =>
    rw [hF] at q
    exact fun F' H' g => hW c σ H' (q F' H' (R1.grow g).gr0)
  | bad => rw [hF] at q; exact q.elim
end
section
variable {P : Program} {w : World} {K : PySem.W.Frag} {mg : Str → Option Value} {base : Heap} {x qual : Str} {st : Stmt} {f : Addr} {fd : FuncData} {N ps : List Str} {k n : Nat} {B : SS}
theorem tkOf {sc : Scope} {cdv : Value} {A : Around} {outer : List Env} {s : Shared} {H : Hp} {E : XK} : TkX (cxOf (L2.CX P w) P w K mg base N qual sc f cdv A outer s H E) (XEof mg E) :=
  ⟨fun cls d _ H => E cls d H, takes_of rfl rfl rfl rfl, fun c σ H h => h⟩
theorem fn_X (F : Fun K x qual st f fd) (S : FnScope N ps (defScope st)) (hn : ps.length = n)
    (hb : ∀ (cdv : Value) (A : Around) (outer : List Env) (s : Shared) (H : Hp) (E : XK), Room k (A.deeper (envOfC qual (defScope st) s.heap.objs.size f cdv)) → PSs (cxOf (L2.CX P w) P w K mg base N qual (defScope st) f cdv A outer s H E) (defBody st) (tS K (XEof mg E) B)) :
    FnOk P w K mg base (L2.CX P w) (k + 1) f fd ps (spX K mg n (runP N.length B)) := by
  refine F.okX S (fun vs H Q E h => ?_) fun cdv A outer s H vs Q E hr h => ⟨tS K (XEof mg E) B, hb cdv A outer s H E hr, ?_⟩
  · obtain ⟨Fz, ds, _, _, hd, hl, _⟩ := h
    rw [hd.length, hl, hn]
  · obtain ⟨Fz, ds, sm, tb, hd, hl, hm⟩ := h
    have e : L2.start N vs = vs.map some ++ List.replicate (N.length - ds.length) none := by unfold L2.start; rw [hd.length]
    rw [e]
    refine ⟨_, start0 N.length ds, none, Fz, Rel.start sm tb hd, ?_⟩
    unfold runP at hm
    cases hB : B (start0 N.length ds) none with
    | nx ρ W =>
      rw [hB] at hm
      exact fun G' σ' F' H' b s R => hm .non F' H' (by have g := R.gr; unfold Gh.tm at g; rw [b.T0, b.F0, b.H0] at g; exact g.mono fun _ z => nomatch z) .non
    | rt r W =>
      rw [hB] at hm
      cases r with
      | d x => exact fun G' ρ' σ' v F' H' b s R hv => hm v F' H' (by have g := R.gr; unfold Gh.tm at g; rw [b.T0, b.F0, b.H0] at g; exact g.mono fun _ z => nomatch z) hv
      | _ => exact hm.elim
    | exc c =>
      rw [hB] at hm
      exact fun F' H' g => hm F' H' (by unfold Gh.tm at g; exact g.mono fun _ z => nomatch z)
    | bad => rw [hB] at hm; exact hm.elim
end
end Sx

namespace Sx
open PySem PySem.Spec PyProof.Rows L2
/-! ### an exception that is kept behind its try -/
theorem kxO_ok {P : Program} {w : World} {H : Hp} {h : Heap} {a : Addr} {cls : Value} {oe : Obj} {vs : Array Value} (e : h.get? a = some oe) (z : Zc cls none oe) (d : oe.data = .fields vs) : ObjOk P w H h a (KxO cls a) :=
  ⟨⟨oe, vs, e, z, d⟩, ⟨oe, e⟩, fun _ _ ⟨o, v, q, r⟩ k => ⟨o, v, k o q, r⟩⟩
/-- an object that stands there is tracked from now on -/
theorem Inv_track {X : Cx} {pins : List (Addr × Obj)} {σ : L2.St} {H : Hp} {s : Shared} {a : Addr} {cls : Value} {oe : Obj} {vs : Array Value} (I : Inv X pins σ H s) (ha : s.heap.get? a = some oe) (hz : Zc cls none oe) (hd : oe.data = .fields vs) (na : H a = none)
    (n0 : X.s_0.heap.get? a = none) (nL : a ≠ X.env.locals) (np : ∀ p ∈ X.pn ++ pins, p.1 ≠ a) : Inv X pins σ (upd H a (KxO cls a)) s := by
  have ne0 : ∀ b o, X.s_0.heap.get? b = some o → b ≠ a := fun b o e z => by rw [z, n0] at e; cases e
  have neH : ∀ b (u : HO), H b = some u → b ≠ a := fun b u e z => by rw [z, na] at e; cases e
  refine ⟨I.ok, I.os, I.bare, ⟨I.base.keep, I.base.slot, fun b o e n hx => ?_, I.base.there, fun b xs e => ?_, fun b o u e => ?_, fun b ps e => ?_⟩, I.loc, I.cell, ?_, fun x c e => ?_, fun p hp => ?_, I.hok.laidN (fun _ _ q => q) na (kxO_ok ha hz hd), I.len⟩
  · rw [upd_ne (ne0 b o e)]; exact I.base.free b o e n hx
  · have q := I.base.tups b xs e
    rw [upd_ne (neH b _ q)]; exact q
  · have q := I.base.frzs b o u e
    rw [upd_ne (neH b _ q)]; exact q
  · obtain ⟨m, q⟩ := I.base.tbls b ps e
    exact ⟨m, by rw [upd_ne (neH b _ q)]; exact q⟩
  · rw [upd_ne (Ne.symm nL)]; exact I.free
  · obtain ⟨v, o, ho, hdc⟩ := I.cell x c e
    have : c ≠ a := fun z => by
      rw [z, ha] at ho
      cases ho
      rw [hd] at hdc
      cases hdc
    rw [upd_ne this]; exact I.freeC x c e
  · obtain ⟨h1, h2, h3⟩ := I.pin p hp
    exact ⟨h1, by rw [upd_ne (np p hp)]; exact h2, h3⟩
/-- what the clause wishes: behind it the exception is tracked -/
def wKp (K : PySem.W.Frag) (c : Value) (i : Nat) (ts : Addr → Value → TS) (Wout : WX) (D : Ends) : WX := fun cls d σ H =>
  ∃ b, PySem.W.exmOne K cls c = some b ∧ (b = true → d = none ∧ ∀ a, H a = none → ts a cls { nx := fun σ' H' => H' a = none → D.nx (σ'.set i none) (upd H' a (KxO cls a)), rt := fun _ _ => False, bk := fun _ _ => False, ct := fun _ _ => False } (σ.set i (some (.ref a))) H) ∧
    (b = false → Wout cls d σ H)
section
variable {X : Cx} {x n : Str} {c : Value} {i : Nat} {body suite : List Stmt} {b₀ : Stmt} {np pos pos' : Pos} {tb : WX → TS} {ts : Addr → Value → TS} {Wout : WX}
theorem ps_try_keep (hs : X.stack = X.env :: X.outer) (hf : X.env.frame = some X.env.locals) (hex : X.ex = []) (hN : X.N.Nodup) (hi : X.N[i]? = some n) (hln : X.env.kindOf n = some .local) (hc : Names X x c) (tk : Takes X Wout)
    (hb : ∀ (W : WX) (pn : List (Addr × Obj)) (xe : Value → Shared → Prop), Takes (X.tr pn xe) W → PassesOwn (model X.prog X.w) X.A X.env xe → PSs (X.tr pn xe) body (tb W))
    (hsu : ∀ (a : Addr) (oe : Obj) (cls : Value) (pn : List (Addr × Obj)), PSs (X.suite a ((a, oe) :: pn)) (b₀ :: suite) (ts a cls)) :
    PS X (.Try body [.ExceptHandler (some (.Name x np)) (some n) (b₀ :: suite) pos'] [] [] pos) (fun D σ H => tb (wKp X.K c i ts Wout D) D σ H) := by
  refine ⟨fun pins s σ H D I h => ?_⟩
  have ok := I.ok
  have hfr : X.A.frames = some (X.env :: X.outer) := by rw [ok.frames, hs]
  refine wpAny_Try_except ?_
  refine wpAny_mono ((hb (wKp X.K c i ts Wout D) (X.pn ++ pins) (fun e s₁ => wpAny (model X.prog X.w) X.A (noteFrame e X.env) (fun _ s₂ => wpAny (model X.prog X.w) X.A (setFlight e none) (fun _ s₃ =>
    wpAny (model X.prog X.w) X.A (handleBy e X.env [.ExceptHandler (some (.Name x np)) (some n) (b₀ :: suite) pos']) (SP X pins D) X.xe s₃) X.xe s₂) X.xe s₁) (fun u s' xx => ?_) PassesOwn.looking).run [] s σ H D (I.toTry _) h) (fun f s1 hsp => ?_) (fun e s1 he => he)
  · obtain ⟨a, B, sI, pins', σ', H', cls, d, rfl, J', nb, up, sky, na, os, ag, b, hb1, hyes, hno⟩ := xx
    have J : Inv X pins σ' H' sI := J'.ofTry ok
    have sky' : Sky B (X.env :: X.outer) a (Zc cls d) X.env.locals s'.heap := by rw [← hs]; exact sky
    show wpAny (model X.prog X.w) X.A (noteFrame (.ref a) X.env) _ _ _
    refine Sky.land Zc.steady hfr hf sky' fun h3 fl3 up3 => ?_
    have J3 : Inv X pins σ' H' { s' with heap := h3 } := J.landed nb fl3.1 (up.trans up3) os ag
    obtain ⟨oe3, vs3, he3, hz3, hd3⟩ := fl3.there
    have aB : B.get? a = none := fl3.2.1
    have nfr : a ∉ frs (X.env :: X.outer) := fun hm => by
      obtain ⟨_, o', e', hnf⟩ := fl3.2.2.1.mem hm
      rw [he3] at e'; cases e'
      exact hnf _ hd3
    have nfr' : a ∉ frs X.stack := by rw [hs]; exact nfr
    have nL : a ≠ X.env.locals := fun z => nfr (List.mem_filterMap.mpr ⟨X.env, List.mem_cons_self, by rw [hf, z]⟩)
    have nF : a ∉ X.fs := fun hm => by
      obtain ⟨e, he, q⟩ := List.mem_filterMap.mp hm
      exact nfr (List.mem_filterMap.mpr ⟨e, List.mem_cons_of_mem _ he, q⟩)
    have nsI : sI.heap.get? a = none := by
      cases q : sI.heap.get? a with
      | none => rfl
      | some o =>
        have z := nb a o q nfr'
        rw [aB] at z; cases z
    have n0 : X.s_0.heap.get? a = none := by
      cases q : X.s_0.heap.get? a with
      | none => rfl
      | some o =>
        obtain ⟨o', z⟩ := J.base.there a o q (by rw [hex]; exact fun z => nomatch z)
        rw [nsI] at z; cases z
    have npn : ∀ p ∈ X.pn ++ pins, p.1 ≠ a := fun p hp z => by
      have := (J.pin p hp).1
      rw [z, nsI] at this; cases this
    have S3 := J3.suite he3 hd3 na nL nF
    refine wpAny_handleBy_cons (codeAny_handlers_test ?_) (by intro q; cases q)
    have LT : PySem.W.Looks (model X.prog X.w) h3 (typeOf (.ref a)) cls := fun A Q E s k q => wpAny_typeOf_ref (k _ _ he3) (by rw [hz3.1]; exact q)
    have LM := PySem.W.exm_one (M := model X.prog X.w) (J3.kIn) LT hb1
    have test : ∀ {Q : Value → Shared → Prop} {E : Value → Shared → Prop}, Q c { s' with heap := h3 } → wpAny (model X.prog X.w) (X.A.mark (some (.ref a))) (eval (.Name x np) X.env) Q E { s' with heap := h3 } := fun {Q E} q => by
      obtain ⟨hg, hdbg, hm | ⟨hm, hv, hnn⟩⟩ := hc
      · exact ld_glob (X := X.suite a ((a, oe3) :: (X.pn ++ pins))) S3 hg hm q hdbg
      · exact ld_blt (X := X.suite a ((a, oe3) :: (X.pn ++ pins))) S3 hg hm hv q hnn hdbg
    refine test (LM.here ?_)
    cases b with
    | true =>
      obtain ⟨hdn, hy⟩ := hyes rfl
      subst hdn
      refine codeAny_handlers_suite_as ?_
      refine HandSPX.lands_againZ fl3 fun h4 fl4 up4 => ?_
      have J4 : Inv X pins σ' H' { s' with heap := h4 } := J.landed nb fl4.1 ((up.trans up3).trans up4) os ag
      obtain ⟨oe4, vs4, he4, hz4, hd4⟩ := fl4.there
      have S4 := J4.suite he4 hd4 na nL nF
      refine store_ok (X := X.suite a ((a, oe4) :: (X.pn ++ pins))) (v := .ref a) S4 hN hi (.inl hln) rfl (fun s5 S5 => ?_) (.inr hln)
      refine wpAny_mono ((hsu a oe4 cls (X.pn ++ pins)).run [] s5 _ H' _ S5 (hy a na)) (fun f s6 hsp => ?_) (fun _ _ z => False.elim z)
      cases f with
      | next =>
        obtain ⟨σ6, H6, S6, q6⟩ := hsp
        refine gone_ok (X := X.suite a ((a, oe4) :: (X.pn ++ pins))) S6 hN hi hln fun s7 S7 => ?_
        obtain ⟨p1, p2, _⟩ := S7.pin (a, oe4) (List.mem_append.mpr (.inl List.mem_cons_self))
        exact ⟨_, _, Inv_track (S7.unsuite ok) p1 hz4 hd4 p2 n0 nL npn, q6 p2⟩
      | brk =>
        obtain ⟨σ6, H6, S6, q6⟩ := hsp
        exact q6.elim
      | cont =>
        obtain ⟨σ6, H6, S6, q6⟩ := hsp
        exact q6.elim
      | ret u =>
        obtain ⟨v6, σ6, H6, S6, r6, q6⟩ := hsp
        exact q6.elim
    | false =>
      show wpAny _ X.A (handleBy (.ref a) X.env []) _ _ _
      refine wpAny_handleBy_nil ?_
      obtain ⟨k1, k2, k3, oe, vs, T, oT, ts', he, hz, hd, h1, hr⟩ := id fl3
      unfold PySem.passOn
      refine wpAny_bind (wpAny_field he hd h1 ?_)
      rw [if_neg (show ¬ ((Value.ref T == Value.none) = true) from by simp)]
      have fin : wpAny (model X.prog X.w) X.A (setFlight (.ref a) X.env.frame) (fun _ s4 => wpAny (model X.prog X.w) X.A (throw (.ref a) : Sem Flow) (SP X pins D) X.xe s4) X.xe { s' with heap := h3 } := by
        rw [hf]
        refine HandSPX.setFlight_upZ fl3 fun h4 hh4 up4 => wpAny_throw (tk _ _ ?_)
        exact ⟨a, B, sI, pins, σ', H', cls, d, rfl, J, nb, (up.trans up3).trans up4, .inr (.inr (by rw [hs]; exact hh4)), na, os, ag, hno rfl⟩
      first
        | exact wpAny_bind (wpAny_pure (wpAny_bind fin))
        | exact wpAny_bind fin
  · cases f with
    | next =>
      obtain ⟨σ', H', J', q⟩ := hsp
      exact wpAny_execs_nil ⟨σ', H', J'.ofTry ok, q⟩
    | brk =>
      obtain ⟨σ', H', J', q⟩ := hsp
      exact ⟨σ', H', J'.ofTry ok, q⟩
    | cont =>
      obtain ⟨σ', H', J', q⟩ := hsp
      exact ⟨σ', H', J'.ofTry ok, q⟩
    | ret u =>
      obtain ⟨v, σ', H', J', r, q⟩ := hsp
      exact ⟨v, σ', H', J'.ofTry ok, r, q⟩
end
end Sx

namespace Sx
open PySem PySem.Spec PyProof.Rows L2
/-! ### the outcome of a call: a result or the class of an exception -/
def excN : List Str := ["InvalidLadder", "InvalidHolder", "InvalidAmount", "InvalidNumber", "InvalidGoal", "InvalidOptions", "InvalidChoice", "InvalidText", "Unlike", "NotSimple", "TooMany", "TooMuch", "NothingToUndo"]
structure ExF (K : PySem.W.Frag) (mg : Str → Option Value) : Prop where
  glo : ∀ c ∈ excN, mg c = some (.ref (He.ga K c))
  top : mg "LadderError" = some (.ref (He.ga K "LadderError"))
  exm : ∀ c ∈ excN, PySem.W.exmOne K (.ref (He.ga K c)) (.ref (He.ga K "LadderError")) = some true
  own : ∀ c ∈ excN, ExcC K (He.ga K c)
  isa : ∀ c ∈ excN, ∀ d ∈ excN, PySem.W.kitOne K (.ref (He.ga K c)) (.ref (He.ga K d)) = some (decide (c = d))
  isv : ∀ c ∈ excN, PySem.W.kitOne K (.ref (He.ga K c)) (.type "ValueError") = some true
  oe : ∀ c ∈ excN, OwnE K mg c
theorem Rel.setEx {K : PySem.W.Frag} {G : Gh} {ρ : Sl} {W : Tw} {σ : L2.St} {F H : Hp} {i : Nat} {a : Addr} {c : Str} (R : Rel K G ρ W σ F H) (hi : i < ρ.length) (hv : F a = some (KxO (.ref (He.ga K c)) a)) : Rel K G (ρ.set i (some (.ex c))) W (σ.set i (some (.ref a))) F H := by
  refine ⟨R.gr, by rw [List.length_set, List.length_set]; exact R.len, R.t0, R.t1, R.tw, fun j sv e => ?_, R.dj, R.fr, R.ex, R.xt, R.tb, R.kk⟩
  by_cases hj : i = j
  · subst hj
    rw [List.getElem?_set_self hi] at e
    cases e
    exact ⟨.ref a, List.getElem?_set_self (by rw [← R.len]; exact hi), a, rfl, hv⟩
  · rw [List.getElem?_set_ne hj] at e ⊢
    exact R.sl j sv e
/-- try: r = f(..) / except LadderError as e: c = e -/
def sTryC (jr jc ie n : Nat) (Fs : List Dt → Res Dt) (ga : SA) : SS := fun ρ W => match ga ρ W with
  | .ok p => if p.1.length = n ∧ jr < ρ.length ∧ jc < ρ.length ∧ ie < ρ.length ∧ jc ≠ ie then match Fs p.1 with
    | .ok r => .nx (ρ.set jr (some (.d r))) p.2
    | .exc c => if c ∈ excN then .nx ((ρ.set jc (some (.ex c))).set ie none) p.2 else .bad
    | .bad => .bad
    else .bad
  | _ => .bad
section
variable {X : Cx} {XE : Str → Hp → Prop} {e : Expr} {es : List Expr} {p pos pos1 pos2 pos3 pos' np q1 q2 q3 : Pos} {ga : SA} {k n jr jc ie : Nat} {f : Addr} {fd : FuncData} {ps : List Str} {x nr nc ne : Str}
theorem s_tryC {Fs : List Dt → Res Dt} (EF : ExF X.K X.mg) (hs : X.stack = X.env :: X.outer) (hf : X.env.frame = some X.env.locals) (hex : X.ex = []) (hN : X.N.Nodup) (hir : X.N[jr]? = some nr) (hic : X.N[jc]? = some nc) (hie : X.N[ie]? = some ne)
    (hlr : Loc X.env.scope nr) (hlc : Loc X.env.scope nc) (hln : X.env.kindOf ne = some .local) (hgL : Gl X "LadderError")
    (F : FnOk X.prog X.w X.K X.mg X.base (L2.CX X.prog X.w) k f fd ps (spX X.K X.mg n Fs)) (hr : Room k X.A) (hg : Gl X x) (hm : X.mg x = some (.ref f)) (hk : PySem.W.keepIn X.K (.ref f) = true) (hb : Binds X.K fd ps [])
    (ha : ∀ (pn : List (Addr × Obj)) (xe : Value → Shared → Prop), PA (X.tr pn xe) (e :: es) (tA X.K X0 ga))
    (hve : ∀ (a : Addr) (oe : Obj) (pn : List (Addr × Obj)), PE (X.suite a ((a, oe) :: pn)) (.Name ne q2) (tVar ie))
    (hsw : swapsWith (.Call (.Name x p) (e :: es) [] pos1) (some (.Name nr q1)) pos2.line X.env = pure false := by rfl) (hsw2 : swapsWith (.Name ne q2) (some (.Name nc q3)) pos3.line X.env = pure false := by rfl)
    (hfr : X.fn nr = true ∨ X.env.scope.names.lookup nr = some .local := by first | exact .inl rfl | exact .inr rfl | assumption) (hfc : X.fn nc = true ∨ X.env.scope.names.lookup nc = some .local := by first | exact .inl rfl | exact .inr rfl | assumption)
    (hdb : (x == ("__debug__" : Str)) = false := by decide) (he : starEach (e :: es) X.env = (false, eval e X.env) :: starEach es X.env := by rfl) (hpl : (backTo pos1 (starEach es X.env)).any (·.1) = false := by rfl) :
    PS X (.Try [.Assign [.Name nr q1] (.Call (.Name x p) (e :: es) [] pos1) pos2] [.ExceptHandler (some (.Name "LadderError" np)) (some ne) [.Assign [.Name nc q3] (.Name ne q2) pos3] pos'] [] [] pos) (tS X.K XE (sTryC jr jc ie n Fs ga)) := by
  have key := ps_try_keep (X := X) (x := "LadderError") (n := ne) (c := .ref (He.ga X.K "LadderError")) (i := ie) (np := np) (pos := pos) (pos' := pos') (Wout := fun _ _ _ _ => False) (body := [.Assign [.Name nr q1] (.Call (.Name x p) (e :: es) [] pos1) pos2]) (b₀ := .Assign [.Name nc q3] (.Name ne q2) pos3) (suite := [])
    (tb := fun W => tAsg (tCallS (spX X.K X.mg n Fs) (WE W) (tA X.K X0 ga)) (gName jr)) (ts := fun a cls => tAsg (tVar ie) (gName jc))
    hs hf hex hN hie hln ⟨hgL, by decide, .inl EF.top⟩ (fun u s' ⟨a, B, sI, pins, σ, H, cls, d, e, I, nb, up, sky, na, os, ag, w⟩ => w.elim)
    (fun W pn xe tw po => pss_one (ps_set (X := X.tr pn xe) hN hir hlr (pe_callS (X := X.tr pn xe) (E := WE W) F hr hg hm hk hb (passAt tw) (ha pn xe) hdb he hpl) hsw hfr))
    (fun a oe cls pn => pss_one (ps_set (X := X.suite a ((a, oe) :: pn)) hN hic hlc (hve a oe pn) hsw2 hfc))
  refine key.weak fun D σ H ⟨G, ρ, W, Fz, R, q⟩ => ?_
  unfold sTryC at q
  cases hga : ga ρ W with
  | exc c => rw [hga] at q; exact q.elim
  | bad => rw [hga] at q; exact q.elim
  | ok pp =>
    rw [hga] at q
    obtain ⟨⟨hl, h1, h2, h3, h4⟩, q⟩ := Po.of_ite q
    refine ⟨G, ρ, W, Fz, R, ?_⟩
    show Pg X0 G (ga ρ W) _
    rw [hga]
    intro vs F1 H1 s1 R1 hv
    refine ⟨F1, pp.1, R1.fh, R1.tb, hv, hl, ?_⟩
    cases hF : Fs pp.1 with
    | bad => rw [hF] at q; exact q.elim
    | ok r =>
      rw [hF] at q
      intro v F2 H2 g hw
      exact q G _ F2 H2 (.refl _) (s1.trans g.ff) ((R1.grow g).setD h1 hw)
    | exc c =>
      rw [hF] at q
      obtain ⟨hmem, q⟩ := Po.of_ite q
      intro F2 H2 g
      refine ⟨He.ga X.K c, EF.glo c hmem, true, EF.exm c hmem, fun _ => ⟨rfl, fun a na => ?_⟩, fun z => nomatch z⟩
      refine ⟨.ref a, List.getElem?_set_self (by rw [← R1.len]; exact h3), fun na' => ?_⟩
      have R2 := R1.grow g
      have g2 : Gr0 X.K F2 H2 (upd F2 a (KxO (.ref (He.ga X.K c)) a)) (upd H2 a (KxO (.ref (He.ga X.K c)) a)) := .new R2.fh na
      have R3 := (R2.grow g2).setEx (i := jc) (a := a) (c := c) h2 upd_same
      refine q G _ _ _ (.refl _) ((s1.trans g.ff).trans g2.ff) (R3.restrict (by simp [R1.len]) fun i sv hi => ?_)
      by_cases hie' : ie = i
      · subst hie'
        rw [List.getElem?_set_self (by simpa using h3)] at hi
        cases hi
      · rw [List.getElem?_set_ne hie'] at hi
        refine ⟨hi, ?_⟩
        rw [List.getElem?_set_ne hie']
        by_cases hj : jc = i
        · subst hj
          rw [List.getElem?_set_self (by rw [← R1.len]; exact h2), List.getElem?_set_self (by rw [List.length_set, ← R1.len]; exact h2)]
        · rw [List.getElem?_set_ne hj, List.getElem?_set_ne hj, List.getElem?_set_ne hie']
/-! is it None -/
def eIsN (i : Nat) : SE := fun ρ W => match ρ[i]? with
  | some (some (.d x)) => .ok (.bool (isNone x), W)
  | some (some (.ex _)) => .ok (.bool false, W)
  | _ => .bad
theorem isN_of {i : Nat} {σ : L2.St} {H : Hp} {Q : VK} (h : tE X.K XE (eIsN i) σ H Q) : tOp (fun x y H Q => y = .non ∧ Q (.bl (decide (x = .non))) H) (tVar i) (tC .non) σ H Q := by
  obtain ⟨G, ρ, W, F, R, q⟩ := h
  unfold eIsN at q
  split at q
  · rename_i d hs
    obtain ⟨v, h1, h2⟩ := R.sl i _ hs
    refine ⟨v, h1, rfl, q _ F H (.refl _) R ?_⟩
    have : decide (v = .non) = isNone d := by
      have h2 : Dq X.K F v d := h2
      cases h2 <;> rfl
    rw [this]
    exact .bl _
  · rename_i c hs
    obtain ⟨v, h1, a, rfl, h2⟩ := R.sl i _ hs
    exact ⟨_, h1, rfl, q _ F H (.refl _) R (.bl false)⟩
  · exact q.elim
theorem c_isN {i j : Nat} (hx : PE X (.Name x q1) (tVar i)) (hm : behindInMarks .Is (.Constant .none j q2) = false) : PT X (.Compare (.Name x q1) [.Is] [.Constant .none j q2] pos) (tT X.K XE (bOf (eIsN i))) :=
  (pt_cmpR op_isN hx pe_non hm).weak fun _ _ _ h => isN_of (test_of h)
/-! isinstance of a kept exception -/
def eIsX (i : Nat) (d : Str) : SE := fun ρ W => match ρ[i]? with
  | some (some (.ex c)) => if c ∈ excN ∧ (d = "ValueError" ∨ d ∈ excN) then .ok (.bool (decide (d = "ValueError") || decide (c = d)), W) else .bad
  | _ => .bad
def rIsX (K : PySem.W.Frag) : List V → Hp → VK → Prop := fun xs H Q => ∃ (a D : Addr) (c : V) (cv : Value) (b : Bool), xs = [.ref a, c] ∧ H a = some (KxO (.ref D) a) ∧ ExcC K D ∧ (∀ u, RelV c u → u = cv) ∧ PySem.W.kitOne K (.ref D) cv = some b ∧ Q (.bl b) H
theorem call_isX : CallR X (.builtin "isinstance") (rIsX X.K) := by
  intro pins s σ H xs us Q I r h
  obtain ⟨a, D, c, cv, b, rfl, hH, C, hcv, e, q⟩ := h
  cases r with
  | cons rx rr =>
    cases rr with
    | cons rt rr =>
      cases rr
      cases rx
      have ec := hcv _ rt
      subst ec
      obtain ⟨⟨oe, vs, hget, hz, hv⟩, _⟩ := I.hok a _ hH
      have J : PySem.W.InstAt s.heap a oe D none := by
        obtain ⟨oc, od, oda, osl⟩ := oe
        obtain ⟨h1, h2⟩ := hz
        dsimp only at h1 h2 hv
        subst h1 h2 hv
        exact ⟨hget, rfl, rfl, trivial⟩
      exact PySem.W.kia_one (PySem.W.handS_kitx_exc C.hg C.hk C.hs C.hd C.ha C.hn C.ht C.hm) I.kIn J e (fun z => nomatch z) fun tk => ⟨.bl b, H, I.kept (t' := tk) fun _ _ z => z, rfl, q⟩
theorem d_isX {i : Nat} {d : Str} {pt : Pos} (EF : ExF X.K X.mg) (hd : d ∈ excN) (hg : Gl X "isinstance") (hm : X.mg "isinstance" = none) (hgt : Gl X d) (hx : PE X (.Name x q1) (tVar i)) (hdt : (d == ("__debug__" : Str)) = false := by decide)
    (he : starEach [.Name x q1, .Name d pt] X.env = (false, eval (.Name x q1) X.env) :: starEach [.Name d pt] X.env := by rfl) (he2 : starEach [.Name d pt] X.env = (false, eval (.Name d pt) X.env) :: starEach [] X.env := by rfl) (hpl : (backTo pos (starEach [.Name d pt] X.env)).any (·.1) = false := by rfl) :
    PE X (.Call (.Name "isinstance" p) [.Name x q1, .Name d pt] [] pos) (tE X.K XE (eIsX i d)) := by
  refine (pe_callB call_isX hg hm (by decide +kernel) (pa_cons hx (pa_cons (pe_glob (v := .ref (He.ga X.K d)) hgt (EF.glo d hd) rfl hdt) pa_nil he2) he) (by decide) (by decide) he hpl).weak fun σ H Q ⟨G, ρ, W, F, R, q⟩ => ?_
  unfold eIsX at q
  split at q
  · rename_i c hs
    obtain ⟨hc, q⟩ := Pg.of_ite q
    obtain ⟨v, h1, a, rfl, h2⟩ := R.sl i _ hs
    have hne : decide (d = "ValueError") = false := by
      refine decide_eq_false fun z => ?_
      rw [z] at hd
      exact absurd hd (by decide +kernel)
    refine ⟨_, h1, a, He.ga X.K c, .ref (He.ga X.K d), .ref (He.ga X.K d), decide (c = d), rfl, R.fh _ _ h2, EF.own c hc.1, fun u z => (show u = _ from z), EF.isa c hc.1 d hd, ?_⟩
    refine q _ F H (.refl _) R ?_
    show Dq X.K F (.bl (decide (c = d))) (.bool (decide (d = "ValueError") || decide (c = d)))
    rw [hne]
    exact .bl _
  · exact q.elim
theorem d_isXV {i : Nat} {pt : Pos} (EF : ExF X.K X.mg) (hg : Gl X "isinstance") (hm : X.mg "isinstance" = none) (hgt : Gl X "ValueError") (hmt : X.mg "ValueError" = none) (hx : PE X (.Name x q1) (tVar i))
    (he : starEach [.Name x q1, .Name "ValueError" pt] X.env = (false, eval (.Name x q1) X.env) :: starEach [.Name "ValueError" pt] X.env := by rfl) (he2 : starEach [.Name "ValueError" pt] X.env = (false, eval (.Name "ValueError" pt) X.env) :: starEach [] X.env := by rfl) (hpl : (backTo pos (starEach [.Name "ValueError" pt] X.env)).any (·.1) = false := by rfl) :
    PE X (.Call (.Name "isinstance" p) [.Name x q1, .Name "ValueError" pt] [] pos) (tE X.K XE (eIsX i "ValueError")) := by
  refine (pe_callB call_isX hg hm (by decide +kernel) (pa_cons hx (pa_cons (pe_bltn (v := .ty "ValueError") hgt hmt (by decide +kernel) rfl (by decide) (by decide)) pa_nil he2) he) (by decide) (by decide) he hpl).weak fun σ H Q ⟨G, ρ, W, F, R, q⟩ => ?_
  unfold eIsX at q
  split at q
  · rename_i c hs
    obtain ⟨hc, q⟩ := Pg.of_ite q
    obtain ⟨v, h1, a, rfl, h2⟩ := R.sl i _ hs
    refine ⟨_, h1, a, He.ga X.K c, .ty "ValueError", .type "ValueError", true, rfl, R.fh _ _ h2, EF.own c hc.1, fun u z => (show u = _ from z), EF.isv c hc.1, ?_⟩
    exact q _ F H (.refl _) R (.bl true)
  · exact q.elim
end
/-! a def whose only argument is an exception -/
def spN (K : PySem.W.Frag) (Fs : Str → Res Dt) : Sp := fun vs H Q _ => ∃ F a c, vs = [.ref a] ∧ Same F H ∧ TabsF (tabsOf K) F H ∧ F a = some (KxO (.ref (He.ga K c)) a) ∧ match Fs c with
  | .ok r => ∀ v F' H', Gr0 K F H F' H' → Dq K F' v r → Q v H'
  | _ => False
def CalN (P : Program) (w : World) (K : PySem.W.Frag) (mg : Str → Option Value) (base : Heap) (x : Str) (k : Nat) (ps : List Str) (Fs : Str → Res Dt) : Prop :=
  ∃ f fd, FnOk P w K mg base CX0 k f fd ps (spN K Fs) ∧ mg x = some (.ref f) ∧ PySem.W.keepIn K (.ref f) = true ∧ Binds K fd ps []
def runN (m : Nat) (B : SS) (c : Str) : Res Dt := match B (some (.ex c) :: List.replicate (m - 1) none) none with
  | .rt (.d x) _ => .ok x
  | _ => .bad
def eCallN (Fs : Str → Res Dt) (i : Nat) : SE := fun ρ W => match ρ[i]? with
  | some (some (.ex c)) => resT (Fs c) W
  | _ => .bad
section
variable {X : Cx} {XE : Str → Hp → Prop} {p pos q1 : Pos} {k i : Nat} {f : Addr} {fd : FuncData} {ps : List Str} {x y : Str}
theorem d_callN {Fs : Str → Res Dt} (F : FnOk X.prog X.w X.K X.mg X.base CX0 k f fd ps (spN X.K Fs)) (hr : Room k X.A) (hg : Gl X x) (hm : X.mg x = some (.ref f)) (hk : PySem.W.keepIn X.K (.ref f) = true) (hb : Binds X.K fd ps []) (hx : PE X (.Name y q1) (tVar i))
    (hdb : (x == ("__debug__" : Str)) = false := by decide) (he : starEach [.Name y q1] X.env = (false, eval (.Name y q1) X.env) :: starEach [] X.env := by rfl) (hpl : (backTo pos (starEach [] X.env)).any (·.1) = false := by rfl) :
    PE X (.Call (.Name x p) [.Name y q1] [] pos) (tE X.K XE (eCallN Fs i)) := by
  refine (pe_call F hr hg hm hk hb .nil pass0 (pa_cons hx pa_nil he) hdb he hpl).weak fun σ H Q ⟨G, ρ, W, Fz, R, q⟩ => ?_
  unfold eCallN at q
  split at q
  · rename_i c hs
    obtain ⟨v, h1, a, rfl, h2⟩ := R.sl i _ hs
    obtain ⟨r, hr, q⟩ := Pg.of_resT q
    refine ⟨_, h1, Fz, a, c, rfl, R.fh, R.tb, h2, ?_⟩
    rw [hr]
    exact fun v F' H' g hw => q v F' H' g.ff (R.grow g) hw
  · exact q.elim
end
section
variable {P : Program} {w : World} {K : PySem.W.Frag} {mg : Str → Option Value} {base : Heap} {x qual : Str} {st : Stmt} {f : Addr} {fd : FuncData} {N ps : List Str} {k n : Nat} {B : SS}
theorem Rel.startN {F H : Hp} {a : Addr} {c : Str} {m : Nat} (sm : Same F H) (tb : TabsF (tabsOf K) F H) (h : F a = some (KxO (.ref (He.ga K c)) a)) : Rel K ⟨K, none, F, H, [], none, fun _ => []⟩ (some (.ex c) :: List.replicate m none) none (some (.ref a) :: List.replicate m none) F H :=
  ⟨.refl sm, by simp, fun t e => (by cases e), fun t e => (by cases e), trivial, fun i sv e => (by
    cases i with
    | zero => cases e; exact ⟨.ref a, rfl, a, rfl, h⟩
    | succ i =>
      rw [List.getElem?_cons_succ, List.getElem?_replicate] at e
      split at e <;> cases e), fun i j a ha => (by cases ha), fun i a ha => (by cases ha), fun e he => (by cases he), fun e he => (by cases he), tb, rfl⟩
theorem fn_N (F : Fun K x qual st f fd) (S : FnScope N ps (defScope st)) (hn : ps.length = 1)
    (hb : ∀ (cdv : Value) (A : Around) (outer : List Env) (s : Shared) (H : Hp) (E : XK), Room k (A.deeper (envOfC qual (defScope st) s.heap.objs.size f cdv)) → PSs (cxOf CX0 P w K mg base N qual (defScope st) f cdv A outer s H E).nox (defBody st) (tS K X0 B)) :
    FnOk P w K mg base CX0 (k + 1) f fd ps (spN K (runN N.length B)) := by
  refine F.ok S (fun vs H Q E h => ?_) fun cdv A outer s H vs Q E hr h => ⟨tS K X0 B, hb cdv A outer s H E hr, ?_⟩
  · obtain ⟨Fz, a, c, rfl, _⟩ := h
    rw [hn]; rfl
  · obtain ⟨Fz, a, c, rfl, sm, tb, ha, hm⟩ := h
    have e : L2.start N [.ref a] = some (.ref a) :: List.replicate (N.length - 1) none := by unfold L2.start; rfl
    rw [e]
    refine ⟨_, some (.ex c) :: List.replicate (N.length - 1) none, none, Fz, Rel.startN sm tb ha, ?_⟩
    unfold runN at hm
    cases hB : B (some (.ex c) :: List.replicate (N.length - 1) none) none with
    | nx ρ W => rw [hB] at hm; exact hm.elim
    | rt r W =>
      rw [hB] at hm
      cases r with
      | d x => exact fun G' ρ' σ' v F' H' b s R hv => hm v F' H' (by have g := R.gr; unfold Gh.tm at g; rw [b.T0, b.F0, b.H0] at g; exact g.mono fun _ z => nomatch z) hv
      | _ => exact hm.elim
    | exc c => rw [hB] at hm; exact hm.elim
    | bad => rw [hB] at hm; exact hm.elim
end
end Sx

namespace Sx
open PySem PySem.Spec PyProof.Rows L2
/-! ### the head's own fact: the classes of exceptions -/
def exC1 (K : PySem.W.Frag) (c : Str) : Bool := He.eqO (PySem.W.findIn K (.ref (He.ga K c)) "__getattribute__") (some (some (.builtin "BaseException.__getattribute__"))) &&
  (He.eqO (PySem.W.findIn K (.ref (He.ga K c)) "__getattr__") (some none) && (decide (PySem.W.subIn K (.ref (He.ga K c)) (.type "BaseException") = some true) && (PySem.W.hasDictIn K (He.ga K c) &&
  (He.eqO (PySem.W.findIn K (.ref (He.ga K c)) "__class__") (some (some (.builtin "object.__class__"))) && (He.eqO (PySem.W.specialIn K (.builtin "object.__class__") "__get__") (some (some (.builtin "getset_descriptor.__get__"))) &&
  (decide (PySem.W.takesIn K (.builtin "object.__class__") = some true) && decide (PySem.W.mroIn K (He.ga K c) (.type "object") = some true)))))))
theorem exC1_ok {K : PySem.W.Frag} {c : Str} (h : exC1 K c = true) : ExcC K (He.ga K c) := by
  unfold exC1 at h
  simp only [Bool.and_eq_true, decide_eq_true_eq] at h
  obtain ⟨h1, h2, h3, h4, h5, h6, h7, h8⟩ := h
  exact ⟨He.eqO_ok h1, He.eqO_ok h2, h3, h4, He.eqO_ok h5, He.eqO_ok h6, h7, h8⟩
def exC2 (K : PySem.W.Frag) (c : Str) : Bool := decide (PySem.W.kitOne K (.ref (He.ga K c)) (.type "ValueError") = some true) && (decide (PySem.W.exmOne K (.ref (He.ga K c)) (.ref (He.ga K "LadderError")) = some true) &&
  excN.all fun d => decide (PySem.W.kitOne K (.ref (He.ga K c)) (.ref (He.ga K d)) = some (decide (c = d))))
def exE (K : PySem.W.Frag) : Bool := excN.all fun c => exC1 K c && (exC2 K c && (He.Fa.exc c).ok K)
theorem exE_ok {K : PySem.W.Frag} {mg : Str → Option Value} (h : exE K = true) (g : ∀ c ∈ excN, mg c = some (.ref (He.ga K c))) (t : mg "LadderError" = some (.ref (He.ga K "LadderError"))) : ExF K mg := by
  unfold exE at h
  rw [List.all_eq_true] at h
  have h' : ∀ c ∈ excN, exC1 K c = true ∧ exC2 K c = true ∧ (He.Fa.exc c).ok K = true := fun c hc => by
    have := h c hc
    simp only [Bool.and_eq_true] at this
    exact this
  have h2 : ∀ c ∈ excN, PySem.W.kitOne K (.ref (He.ga K c)) (.type "ValueError") = some true ∧ PySem.W.exmOne K (.ref (He.ga K c)) (.ref (He.ga K "LadderError")) = some true ∧ ∀ d ∈ excN, PySem.W.kitOne K (.ref (He.ga K c)) (.ref (He.ga K d)) = some (decide (c = d)) := fun c hc => by
    have := (h' c hc).2.1
    unfold exC2 at this
    simp only [Bool.and_eq_true, decide_eq_true_eq, List.all_eq_true] at this
    exact this
  exact ⟨g, t, fun c hc => (h2 c hc).2.1, fun c hc => exC1_ok (h' c hc).1, fun c hc d hd => (h2 c hc).2.2 d hd, fun c hc => (h2 c hc).1, fun c hc => ⟨_, g c hc, He.exc_ok (h' c hc).2.2⟩⟩
end Sx

namespace Sx
open PySem PySem.Spec PyProof.Rows L2

def B__law_name : SS :=
    (sSeq (sIf (bNot (bOf (eIsX 0 "ValueError"))) (sRet (eUn negD (eC (.int 1)))) sPass)
    (sSeq (sAsg 1 (eFrz (lLst (aCons (eIsX 0 "InvalidLadder") (aCons (eIsX 0 "InvalidHolder") aNil)))))
    (sSeq (sAsg 1 (eBin addD (eVar 1) (eFrz (lLst (aCons (eIsX 0 "InvalidAmount") (aCons (eIsX 0 "InvalidNumber") aNil))))))
    (sSeq (sAsg 1 (eBin addD (eVar 1) (eFrz (lLst (aCons (eIsX 0 "InvalidGoal") (aCons (eIsX 0 "InvalidOptions") aNil))))))
    (sSeq (sAsg 1 (eBin addD (eVar 1) (eFrz (lLst (aCons (eIsX 0 "InvalidChoice") (aCons (eIsX 0 "InvalidText") aNil))))))
    (sSeq (sAsg 1 (eBin addD (eVar 1) (eFrz (lLst (aCons (eIsX 0 "Unlike") (aCons (eIsX 0 "NotSimple") aNil))))))
    (sSeq (sAsg 1 (eBin addD (eVar 1) (eFrz (lLst (aCons (eIsX 0 "TooMany") (aCons (eIsX 0 "TooMuch") aNil))))))
    (sSeq (sAsg 1 (eBin addD (eVar 1) (eFrz (lLst (aCons (eIsX 0 "NothingToUndo") aNil)))))
    (sRet (eIf (bOf (eBin eqD (eMth cntD (eVar 1) (eC (.bool true))) (eC (.int 1)))) (eMth idxD (eVar 1) (eC (.bool true))) (eUn negD (eC (.int 1)))))))))))))
def F__law_name := runN 2 B__law_name

def B__law_raises : SS :=
    (sSeq (sAsg 1 (eFrz (lLst (aCons (eC (.str "ladder")) (aCons (eC (.str "holder")) (aCons (eC (.str "amount")) (aCons (eC (.str "number")) (aCons (eC (.str "goal")) (aCons (eC (.str "options")) (aCons (eC (.str "choice")) aNil))))))))))
    (sSeq (sAsg 1 (eBin addD (eVar 1) (eFrz (lLst (aCons (eC (.str "text")) (aCons (eC (.str "unlike")) (aCons (eC (.str "simple")) (aCons (eC (.str "many")) (aCons (eC (.str "much")) (aCons (eC (.str "undo")) aNil))))))))))
    (sRet (eTup (aCons (eC (.str "raised")) (aCons (eMth idxD (eVar 1) (eVar 0)) aNil))))))
def F__law_raises := runP 2 B__law_raises





























end Sx

namespace Sx
open PySem PySem.Spec PyProof.Rows L2 Mx
@[simp] theorem rOut_exc {α : Type} {c : Str} {k : α → Tw → Out} : rOut (.exc c) k = .exc c := rfl
@[simp] theorem rOut_bad {α : Type} {k : α → Tw → Out} : rOut (.bad : Res (α × Tw)) k = .bad := rfl
@[simp] theorem sRaise_s {c : Str} {ρ : Sl} {W : Tw} : sRaise c ρ W = .exc c := rfl
theorem raised (n : Nat) : neD (.tuple [.str "raised", .int (n : Int)]) (.tuple [.str "raised", .int (n : Int)]) = some (.bool false) := Gq.ne (k := 2) (.tup (.cons ⟨by decide +kernel, Nat.zero_le _, by decide +kernel⟩ (.cons .int .nil))) (by decide)
@[simp] theorem eCallX_s {n : Nat} {Fs : List Dt → Res Dt} {as : SA} {ρ : Sl} {W : Tw} : eCallX n Fs as ρ W = (as ρ W).bind fun p => if p.1.length = n then resX (Fs p.1) p.2 else .bad := rfl
@[simp] theorem resX_ok {α : Type} {r : α} {W : Tw} : resX (.ok r) W = .ok (r, W) := rfl
@[simp] theorem resX_exc {α : Type} {c : Str} {W : Tw} : resX (.exc c : Res α) W = .exc c := rfl
theorem fL_step {g : SG} {body : SS} {d : Dt} {ds : List Dt} {ρ ρ1 ρ2 : Sl} {W W2 : Tw} (hg : g d ρ = some ρ1) (hb : body ρ1 W = .nx ρ2 W2) : fL g body (d :: ds) ρ W = fL g body ds ρ2 W2 := by
  rw [fL_cons, hg]
  simp only
  rw [hb]
end Sx

namespace Sx
open PySem PySem.Spec PyProof.Rows L2
/-! ### texts -/
def chrs (z : Str) : List Dt := z.cps.toList.map fun c => PyData.str ⟨#[c]⟩
def splitD : Dt → Dt → Option (List Dt)
  | .str z, .str y => if y.length ≠ 0 ∧ z.length ≤ 90000 then some ((Txt.split z y).map PyData.str) else none
  | _, _ => none
def joinD : Dt → Dt → Option Dt
  | .str z, .list ds => (strsOf ds).bind fun ys => if (ys.map (·.length)).sum + ys.length * z.length ≤ 90000 then some (.str (Txt.join z ys)) else none
  | _, _ => none
/-- the scope of the comprehension that is a call's only argument -/
def compSc (st : Stmt) : Scope := match defBody st with
  | [.Return (some (.Call _ [.ListComp _ _ sc _] _ _)) _] => sc
  | _ => defScope st
def isStr : Dt → Bool
  | .str _ => true
  | _ => false
/-- o.m(e), o a text -/
def eTm (g : Dt → Dt → Option Dt) (a b : SE) : SE := fun ρ W => (a ρ W).bind fun p => if isStr p.1 = true then (b ρ p.2).bind fun q => ofO (g p.1 q.1) q.2 else .bad
def lTm (g : Dt → Dt → Option (List Dt)) (a b : SE) : SA := fun ρ W => (a ρ W).bind fun p => if isStr p.1 = true then (b ρ p.2).bind fun q => ofO (g p.1 q.1) q.2 else .bad
def iChr (e : SE) : SA := fun ρ W => (e ρ W).bind fun p => match p.1 with
  | .str z => .ok (chrs z, p.2)
  | _ => .bad
def intTD : List Dt → Option Dt
  | [.str z] => if z.length ≤ 600 then (PySem.intText? z).map PyData.int else none
  | _ => none
/-- one sign in a text -/
def inTD : Dt → Dt → Option Dt
  | .str c, .str z => match c.cps.toList with
    | [k] => some (.bool (decide (k ∈ z.cps.toList)))
    | _ => none
  | _, _ => none
def listTL : List Dt → Option (List Dt)
  | [.str z] => if z.length ≤ 1000 then some (chrs z) else none
  | _ => none
/-- a part of an f-string -/
def fmtD : Dt → Option Str
  | .str z => if z.length ≤ 90000 then some z else none
  | .int i => if i.natAbs.log2 < 1920 then some (toString i) else none
  | _ => none
abbrev SJ := Str → Sl → Tw → Res (Str × Tw)
def jNil : SJ := fun acc _ W => .ok (acc, W)
def jE (e : SE) (j : SJ) : SJ := fun acc ρ W => (e ρ W).bind fun p => match fmtD p.1 with
  | some z => if acc.length + z.length ≤ 90000 then j (acc ++ z) ρ p.2 else .bad
  | none => .bad
def eFst (j : SJ) : SE := fun ρ W => (j Str.empty ρ W).bind fun p => .ok (.str p.1, p.2)
section
variable {K : PySem.W.Frag} {F H : Hp}
theorem dq_strs : ∀ (ys : List Str), DqAll K F (ys.map V.str) (ys.map PyData.str)
  | [] => .nil
  | y :: ys => .cons (.str y) (dq_strs ys)
theorem wd_str {z : Str} : WalkD Dq K F (Its z) (chrs z) := by
  unfold WalkD
  have e : (chrs z).length = z.cps.size := by simp [chrs]
  rw [e]
  refine ⟨fun i H hi _ => hi, fun H _ => Nat.le_refl _, fun i H v H' hi _ ⟨e1, c, hc, hv⟩ F2' s1' s2' => ?_⟩
  subst e1 hv
  refine ⟨F2', .str ⟨#[c]⟩, ?_, .refl s2', .str _⟩
  unfold chrs
  rw [List.getElem?_map, Array.getElem?_toList, hc]; rfl
end
theorem vals_signs : ∀ (cs : List Nat) (vs : List Value), cs.length = vs.length → (∀ (j : Nat) (v : Value), vs[j]? = some v → ∃ (c : Nat) (u : Tok), cs[j]? = some c ∧ v = .str ⟨#[c]⟩ u) → Vals (cs.map fun c => V.str ⟨#[c]⟩) vs
  | [], [], _, _ => .nil
  | c :: cs, v :: vs, hl, h => by
    obtain ⟨c', u, h1, h2⟩ := h 0 v rfl
    cases h1
    refine .cons ⟨u, h2⟩ (vals_signs cs vs (Nat.succ.inj hl) fun j w hj => ?_)
    obtain ⟨c', u, h1, h2⟩ := h (j + 1) w (by simpa using hj)
    exact ⟨c', u, by simpa using h1, h2⟩
  | [], _ :: _, hl, _ => by cases hl
  | _ :: _, [], hl, _ => by cases hl
theorem len_sz {z : Str} {n : Nat} (h : z.length ≤ n) (k : n ≤ 100000) : z.length ≤ sizeLine := Nat.le_trans h (Nat.le_trans k (by decide))
section
variable {X : Cx} {XE : Str → Hp → Prop} {e a b o : Expr} {es : List Expr} {pos p apos : Pos} {fa fb : SE} {ga : SA} {tg : Expr}
theorem l_split (ho : PE X o (tE X.K XE fa)) (he : PE X e (tE X.K XE fb)) (hs : starEach [e] X.env = [(false, eval e X.env)] := by rfl) (hbase : attributeBase o "split" X.env (eval o X.env) = eval o X.env := by rfl) (hline : (apos.endLine == pos.line) = true := by rfl) :
    PE X (.Call (.Attribute o "split" apos) [e] [] pos) (tL X.K XE (lTm splitD fa fb)) := by
  refine (pe_split ho he hs hbase hline).weak fun σ H Q ⟨G, ρ, W, F, R, q⟩ => ?_
  refine ⟨G, ρ, W, F, R, q.of_bind.mono fun d W1 q v F1 H1 s1 R1 hv => ?_⟩
  obtain ⟨hi, q'⟩ := Pg.of_ite q
  clear q
  have q := q'
  clear q'
  cases d <;> try (cases hi; done)
  rename_i z
  cases hv
  refine ⟨⟨z, rfl⟩, G, ρ, W1, F1, R1, q.of_bind.mono fun d W2 q v F2 H2 s2 R2 hv => ?_⟩
  obtain ⟨zs, hz, q'⟩ := q.of_ofO
  clear q
  have q := q'
  clear q'
  cases d <;> simp only [splitD] at hz <;> try (cases hz; done)
  rename_i y
  cases hv
  split at hz
  · rename_i hc
    cases hz
    refine ⟨z, y, rfl, rfl, by simp only [beq_eq_false_iff_ne]; exact hc.1, Nat.le_trans (Nat.add_le_add_right hc.2 2) (by decide), fun p hp => ?_⟩
    have g : Gr0 X.K F2 H2 F2 (upd H2 p (.lst ((Txt.split z y).map V.str))) := .newH R2.fh hp
    exact q p _ F2 _ (s1.trans s2) (R2.grow g) (R2.fresh hp) upd_same (R2.fh.free hp) (dq_strs _)
  · cases hz
theorem d_join (ho : PE X o (tE X.K XE fa)) (he : PE X e (tE X.K XE fb)) (hs : starEach [e] X.env = [(false, eval e X.env)] := by rfl) (hbase : attributeBase o "join" X.env (eval o X.env) = eval o X.env := by rfl) (hline : (apos.endLine == pos.line) = true := by rfl) :
    PE X (.Call (.Attribute o "join" apos) [e] [] pos) (tE X.K XE (eTm joinD fa fb)) := by
  refine (pe_join ho he hs hbase hline).weak fun σ H Q ⟨G, ρ, W, F, R, q⟩ => ?_
  refine ⟨G, ρ, W, F, R, q.of_bind.mono fun d W1 q v F1 H1 s1 R1 hv => ?_⟩
  obtain ⟨hi, q'⟩ := Pg.of_ite q
  clear q
  have q := q'
  clear q'
  cases d <;> try (cases hi; done)
  rename_i z
  cases hv
  refine ⟨⟨z, rfl⟩, G, ρ, W1, F1, R1, q.of_bind.mono fun d W2 q v F2 H2 s2 R2 hv => ?_⟩
  obtain ⟨x, hz, q'⟩ := q.of_ofO
  clear q
  have q := q'
  clear q'
  cases d <;> simp only [joinD] at hz <;> try (cases hz; done)
  rename_i ds
  cases hy : strsOf ds with
  | none => rw [hy] at hz; cases hz
  | some ys =>
    rw [hy, Option.bind_some] at hz
    split at hz
    · rename_i hc
      cases hz
      cases hv with
      | lst h1 h2 =>
        obtain rfl := strs_vals h2 hy
        exact ⟨z, _, ys, rfl, rfl, .inl (R2.fh.seq h1), Nat.le_trans hc (by decide), q _ F2 H2 (s1.trans s2) R2 (.str _)⟩
    · cases hz
theorem i_chr (he : PE X e (tE X.K XE fa)) : PI X tg e (tI Dq X.K XE (iChr fa)) := by
  refine (pi_str he).weak fun σ H R ⟨G, ρ, W, F, Rl, q⟩ => ⟨G, ρ, W, F, Rl, q.of_bind.mono fun d W1 q v F1 H1 s1 R1 hv => ?_⟩
  cases d with
  | str z =>
    cases hv
    exact ⟨z, rfl, q _ F1 H1 s1 R1 wd_str⟩
  | _ => exact q.elim
theorem ct_intT : CallR X (.type "int") (RDC X.K intTD) := by
  intro pins s σ H xs us Q I r h
  obtain ⟨F, ds, z, sm, hx, hg, q⟩ := h
  rcases ds with _ | ⟨d, _ | ⟨e, ds⟩⟩
  · cases hg
  · obtain ⟨v, rfl, hv⟩ := hx.one
    cases d <;> simp only [intTD] at hg <;> try (cases hg; done)
    rename_i y
    split at hg
    · rename_i hl
      cases hn : PySem.intText? y with
      | none => rw [hn] at hg; cases hg
      | some n =>
        rw [hn] at hg
        cases hg
        obtain rfl := hv.str
        exact call_int_str pins s σ H _ us Q I r ⟨y, n, rfl, hn, by omega, end_int sm rfl q⟩
    · cases hg
  · cases d <;> cases hg
theorem op_inTD : OpR X (compareOp .In) (RD2 X.K inTD) := by
  intro pins s σ H x y v u Q I rx ry h
  obtain ⟨F, d, e, z, sm, hx, hy, hg, q⟩ := h
  cases d <;> simp only [inTD] at hg <;> try (cases hg; done)
  cases e <;> simp only at hg <;> try (cases hg; done)
  rename_i c t
  split at hg
  · rename_i k hk
    cases hg
    obtain rfl := hx.str
    obtain rfl := hy.str
    have ec : c = ⟨#[k]⟩ := by
      obtain ⟨cs⟩ := c
      congr 1
      exact Array.toList_inj.mp hk
    subst ec
    exact op_in_sign pins s σ H _ _ v u Q I rx ry ⟨k, t, rfl, rfl, end_bl sm rfl q⟩
  · cases hg
/-! f-strings -/
def tJ (K : PySem.W.Frag) (XE : Str → Hp → Prop) (j : SJ) (acc : Str) : L2.St → Hp → (Str → Hp → Prop) → Prop := fun σ H Q => ∃ G ρ W F, Rel K G ρ W σ F H ∧
  Pg XE G (j acc ρ W) fun z W' => ∀ F' H', Same F F' → Rel K G ρ W' σ F' H' → Q z H'
/-- the parts -/
def PJs (X : Cx) (XE : Str → Hp → Prop) (es : List Expr) (j : SJ) : Prop := ∃ ts, PJ X es ts ∧ ∀ acc σ H Q, tJ X.K XE j acc σ H Q → tJs ts acc σ H Q
theorem pj_nil : PJs X XE [] jNil := ⟨[], .nil, fun acc σ H Q ⟨G, ρ, W, F, R, q⟩ => q F H (.refl _) R⟩
theorem pj_fmt (he : PE X e (tE X.K XE fa)) {j : SJ} (hj : PJs X XE es j) : PJs X XE (.FormattedValue e (-1) none pos :: es) (jE fa j) := by
  obtain ⟨ts, h1, h2⟩ := hj
  refine ⟨_, .cons (pe_fmt he) h1, fun acc σ H Q ⟨G, ρ, W, F, R, q⟩ => ?_⟩
  refine ⟨G, ρ, W, F, R, q.of_bind.mono fun d W1 q v F1 H1 s1 R1 hv => ?_⟩
  cases hf : fmtD d with
  | none => simp only [hf] at q; exact q.elim
  | some z =>
    simp only [hf] at q
    obtain ⟨hl, q⟩ := Pg.of_ite q
    have fin : ∃ y : Str, V.str z = .str y ∧ (acc ++ y).length ≤ sizeLine ∧ tJs ts (acc ++ y) σ H1 Q := ⟨z, rfl, len_sz (by rw [Str.length_append]; exact hl) (by decide), h2 _ σ H1 Q ⟨G, ρ, W1, F1, R1, q.mono fun k W2 q F2 H2 s2 R2 => q F2 H2 (s1.trans s2) R2⟩⟩
    cases d <;> simp only [fmtD] at hf <;> try (cases hf; done)
    · rename_i i
      split at hf
      · cases hf
        cases hv
        exact .inr ⟨i, rfl, by assumption, fin⟩
      · cases hf
    · rename_i y
      split at hf
      · cases hf
        cases hv
        exact .inl ⟨_, rfl, len_sz (by assumption) (by decide), fin⟩
      · cases hf
theorem pj_con {y : Str} {k : Nat} {j : SJ} (hj : PJs X XE es j) : PJs X XE (.Constant (.str y) k pos :: es) (jE (eC (.str y)) j) := by
  obtain ⟨ts, h1, h2⟩ := hj
  refine ⟨_, .cons pe_str h1, fun acc σ H Q ⟨G, ρ, W, F, R, q⟩ => ?_⟩
  have q : Pg XE G (match fmtD (.str y) with | some z => if acc.length + z.length ≤ 90000 then j (acc ++ z) ρ W else .bad | none => .bad) fun z W' => ∀ F' H', Same F F' → Rel X.K G ρ W' σ F' H' → Q z H' := q
  cases hf : fmtD (.str y) with
  | none => simp only [hf] at q; exact q.elim
  | some z =>
    simp only [hf] at q
    obtain ⟨hl, q⟩ := Pg.of_ite q
    simp only [fmtD] at hf
    split at hf
    · cases hf
      exact ⟨_, rfl, len_sz (by rw [Str.length_append]; exact hl) (by decide), h2 _ σ H Q ⟨G, ρ, W, F, R, q⟩⟩
    · cases hf
theorem d_fst {v1 v2 : Expr} {rest : List Expr} {j : SJ} (hj : PJs X XE (v1 :: v2 :: rest) j) : PE X (.JoinedStr (v1 :: v2 :: rest) pos) (tE X.K XE (eFst j)) := by
  obtain ⟨ts, h1, h2⟩ := hj
  refine (pe_joined h1).weak fun σ H Q ⟨G, ρ, W, F, R, q⟩ => ?_
  exact h2 _ σ H _ ⟨G, ρ, W, F, R, q.of_bind.mono fun z W1 q F1 H1 s1 R1 => q _ F1 H1 s1 R1 (.str z)⟩
theorem ct_listT (hc : X.calm = true) : CallR X (.type "list") (RLC X.K listTL) := by
  intro pins s σ H xs us Q I r h
  obtain ⟨F, ds, z, sm, hx, hg, q⟩ := h
  rcases ds with _ | ⟨d, _ | ⟨e, ds⟩⟩
  · cases hg
  · obtain ⟨v, rfl, hv⟩ := hx.one
    cases d <;> simp only [listTL] at hg <;> try (cases hg; done)
    rename_i y
    split at hg
    · rename_i hl
      cases hg
      obtain rfl := hv.str
      obtain ⟨u, rfl, rx⟩ := vals1 r
      obtain ⟨t, rfl⟩ := rx
      have hsz : y.cps.size ≤ sizeLine := Nat.le_trans (show y.cps.size ≤ 1000 from hl) (by decide)
      refine call_list_str (I.ok.hd hc) y t (fun h' tk acc' c' kp e hacc => ?_) hsz
      have hv : Vals (y.cps.toList.map fun c => V.str ⟨#[c]⟩) acc'.toList := by
        refine vals_signs _ _ (by rw [Array.length_toList, Array.length_toList, hacc.1]) fun j v hj => ?_
        obtain ⟨c, u, h1, h2⟩ := hacc.2 j v (by rw [← Array.getElem?_toList]; exact hj)
        exact ⟨c, u, by rw [Array.getElem?_toList]; exact h1, h2⟩
      refine ⟨.ref s.heap.objs.size, _, I.laid (t' := tk) kp (Nat.le_refl _) (show ObjOk X.prog X.w _ h' _ (.lst (y.cps.toList.map fun c => V.str ⟨#[c]⟩)) from ⟨by rw [List.length_map, Array.length_toList]; exact hsz, acc'.toList, c', hv, by rw [Array.toArray_toList]; exact e⟩), rfl, ?_⟩
      refine q _ _ (I.hok.fresh (Nat.le_refl _)) ?_
      have := dq_strs (K := X.K) (F := F) (y.cps.toList.map fun c => (⟨#[c]⟩ : Str))
      rw [List.map_map, List.map_map] at this
      exact this
    · cases hg
  · cases d <;> cases hg
end
end Sx

namespace Sx
open PySem PySem.Spec PyProof.Rows L2

def cE_pairs_text_1 : SE :=
    (eFst (jE (eVar 1) (jE (eC (.str ":")) (jE (eVar 2) jNil))))
def B_pairs_text : SS :=
    (sRet (eTm joinD (eC (.str " ")) (eFrz (lComp (iSeq (eVar 0)) (gTu 2 (gsCons (gN 1) (gsCons (gN 2) gsNil))) bYes cE_pairs_text_1 [1, 2]))))
def F_pairs_text := runP 3 B_pairs_text

def cE_number_of_1 : SE :=
    (eBin inTD (eVar 1) (eC (.str "0123456789")))
def B_number_of : SS :=
    (sRet (eIf (bAnd (bOf (eChain leD leD (eC (.int 1)) (eCB lenD (aCons (eVar 0) aNil)) (eC (.int 3)))) (bOf (eCB allD (aCons (eFrz (lComp (iChr (eVar 0)) (gN 1) bYes cE_number_of_1 [1])) aNil)))) (eCB intTD (aCons (eVar 0) aNil)) (eUn negD (eC (.int 1)))))
def F_number_of := runP 2 B_number_of

def cE__law_row_1 : SE :=
    (eBin addD (eBin addD (eCB strD (aCons (eVar 1) aNil)) (eC (.str ":"))) (eCB strD (aCons (eVar 2) aNil)))
def B__law_row : SS :=
    (sRet (eTm joinD (eC (.str " ")) (eFrz (lComp (iSeq (eVar 0)) (gTu 2 (gsCons (gN 1) (gsCons (gN 2) gsNil))) bYes cE__law_row_1 [1, 2]))))
def F__law_row := runP 3 B__law_row

def B_rung_text : SS :=
    (sSeq (sIf (bOf (eBin eqD (eBin ixD (eVar 0) (eC (.int 0))) (eC (.str "fixed")))) (sRet (eBin addD (eC (.str "f ")) (eCall 1 F_pairs_text (aCons (eBin ixD (eVar 0) (eC (.int 1))) aNil)))) sPass)
    (sSeq (sAsg 1 (eBin addD (eC (.str "s ")) (eCall 1 F_pairs_text (aCons (eBin ixD (eVar 0) (eC (.int 1))) aNil))))
    (sRet (eIf (bOf (eBin neD (eBin ixD (eVar 0) (eC (.int 2))) (eTup aNil))) (eBin addD (eBin addD (eVar 1) (eC (.str " up to "))) (eCall 1 F_pairs_text (aCons (eBin ixD (eVar 0) (eC (.int 2))) aNil))) (eVar 1)))))
def F_rung_text := runP 2 B_rung_text

def cE_read_pairs_2 : SE :=
    (eCall 1 F_number_of (aCons (eVar 2) aNil))
def cE_read_pairs_1 : SE :=
    (eCB tupleD (aCons (eFrz (lComp (iSeq (eFrz (lTm splitD (eVar 1) (eC (.str ":"))))) (gN 2) bYes cE_read_pairs_2 [2])) aNil))
def B_read_pairs : SS :=
    (sRet (eCB tupleD (aCons (eFrz (lComp (iSeq (eFrz (lTm splitD (eVar 0) (eC (.str " "))))) (gN 1) bYes cE_read_pairs_1 [1])) aNil)))
def F_read_pairs := runP 3 B_read_pairs

def lB__law_line_1 : SS :=
    (sSeq (sAsg 3 (eBin addD (eIf (bOf (eBin eqD (eBin ixD (eVar 2) (eC (.int 0))) (eC (.str "fixed")))) (eC (.str "f ")) (eC (.str "s "))) (eCall 1 F__law_row (aCons (eBin ixD (eVar 2) (eC (.int 1))) aNil))))
    (sSeq (sIf (bAnd (bOf (eBin eqD (eBin ixD (eVar 2) (eC (.int 0))) (eC (.str "shares")))) (bOf (eBin neD (eBin ixD (eVar 2) (eC (.int 2))) (eTup aNil)))) (sAsg 3 (eBin addD (eBin addD (eVar 3) (eC (.str " up to "))) (eCall 1 F__law_row (aCons (eBin ixD (eVar 2) (eC (.int 2))) aNil)))) sPass)
    (sApp 1 (eVar 3))))
def B__law_line : SS :=
    (sSeq (sOwn 1 (lLst aNil))
    (sSeq (sFor (iSeq (eBin ixD (eVar 0) (eC (.int 1)))) (gN 2) lB__law_line_1)
    (fun ρ W => (sRet (eBin addD (eBin addD (eCB strD (aCons (eBin ixD (eVar 0) (eC (.int 0))) aNil)) (eC (.str ": "))) (eTm joinD (eC (.str "; ")) (eVar 1)))) (frzS 1 ρ) W)))
def F__law_line := runP 4 B__law_line

def cE_ladder_text_1 : SE :=
    (eCall 1 F_rung_text (aCons (eVar 1) aNil))
def B_ladder_text : SS :=
    (sRet (eBin addD (eFst (jE (eBin ixD (eVar 0) (eC (.int 0))) (jE (eC (.str ": ")) jNil))) (eTm joinD (eC (.str "; ")) (eFrz (lComp (iSeq (eBin ixD (eVar 0) (eC (.int 1)))) (gN 1) bYes cE_ladder_text_1 [1])))))
def F_ladder_text := runP 2 B_ladder_text

def B_read_rung : SS :=
    (sSeq (sIf (bOf (eBin eqD (eSlice (eVar 0) oNone (oSome (eC (.int 2)))) (eC (.str "f ")))) (sRet (eTup (aCons (eC (.str "fixed")) (aCons (eCall 1 F_read_pairs (aCons (eSlice (eVar 0) (oSome (eC (.int 2))) oNone) aNil)) aNil)))) sPass)
    (sSeq (sAsg 1 (eFrz (lTm splitD (eSlice (eVar 0) (oSome (eC (.int 2))) oNone) (eC (.str " up to ")))))
    (sSeq (sIf (bOr (bOf (eBin neD (eSlice (eVar 0) oNone (oSome (eC (.int 2)))) (eC (.str "s ")))) (bOf (eBin gtD (eCB lenD (aCons (eVar 1) aNil)) (eC (.int 2))))) (sRet (eC .none)) sPass)
    (sRet (eTup (aCons (eC (.str "shares")) (aCons (eCall 1 F_read_pairs (aCons (eBin ixD (eVar 1) (eC (.int 0))) aNil)) (aCons (eIf (bOf (eBin eqD (eCB lenD (aCons (eVar 1) aNil)) (eC (.int 2)))) (eCall 1 F_read_pairs (aCons (eBin ixD (eVar 1) (eC (.int 1))) aNil)) (eTup aNil)) aNil))))))))
def F_read_rung := runP 2 B_read_rung

def cE_parse_ladder_1 : SE :=
    (eCall 1 F_read_rung (aCons (eVar 3) aNil))
def B_parse_ladder : SS :=
    (sSeq (sIf (bNot (bOf (eUn (isiD "str") (eVar 0)))) sNever sPass)
    (sSeq (sAsg 1 (eFrz (lTm splitD (eVar 0) (eC (.str ": ")))))
    (sSeq (sAsg 2 (eTup (aCons (eCall 1 F_number_of (aCons (eBin ixD (eVar 1) (eC (.int 0))) aNil)) (aCons (eCB tupleD (aCons (eFrz (lComp (iSeq (eFrz (lTm splitD (eBin ixD (eVar 1) (eUn negD (eC (.int 1)))) (eC (.str "; "))))) (gN 3) bYes cE_parse_ladder_1 [3])) aNil)) aNil))))
    (sSeq (sIf (bOr (bNot (bOf (eCall 1 F_is_ladder (aCons (eVar 2) aNil)))) (bOf (eBin neD (eCall 1 F_ladder_text (aCons (eVar 2) aNil)) (eVar 0)))) sNever sPass)
    (sRet (eVar 2))))))
def F_parse_ladder := runP 4 B_parse_ladder

def cE_X_parse_ladder_1 : SE :=
    (eCall 1 F_read_rung (aCons (eVar 3) aNil))
def B_X_parse_ladder : SS :=
    (sSeq (sIf (bNot (bOf (eUn (isiD "str") (eVar 0)))) (sRaise "InvalidText") sPass)
    (sSeq (sAsg 1 (eFrz (lTm splitD (eVar 0) (eC (.str ": ")))))
    (sSeq (sAsg 2 (eTup (aCons (eCall 1 F_number_of (aCons (eBin ixD (eVar 1) (eC (.int 0))) aNil)) (aCons (eCB tupleD (aCons (eFrz (lComp (iSeq (eFrz (lTm splitD (eBin ixD (eVar 1) (eUn negD (eC (.int 1)))) (eC (.str "; "))))) (gN 3) bYes cE_X_parse_ladder_1 [3])) aNil)) aNil))))
    (sSeq (sIf (bOr (bNot (bOf (eCall 1 F_is_ladder (aCons (eVar 2) aNil)))) (bOf (eBin neD (eCall 1 F_ladder_text (aCons (eVar 2) aNil)) (eVar 0)))) (sRaise "InvalidText") sPass)
    (sRet (eVar 2))))))
def F_X_parse_ladder := runP 4 B_X_parse_ladder


def B_format_ladder : SS :=
    (sSeq (sExpr (eCall 1 F_check_ladder (aCons (eVar 0) aNil)))
    (sRet (eCall 1 F_ladder_text (aCons (eVar 0) aNil))))
def F_format_ladder := runP 1 B_format_ladder

end Sx

namespace Mx
/-! ### texts of ladders, as lists of signs -/
def pTx (p : Nat × Nat) : List Nat := TL.numL p.1 ++ 58 :: TL.numL p.2
def psTx (ps : List (Nat × Nat)) : List Nat := TL.joinL [32] (ps.map pTx)
def upTo' : List Nat := [32, 117, 112, 32, 116, 111, 32]
def rTx : Rung → List Nat
  | .fixed p => 102 :: 32 :: psTx p
  | .shares w c => 115 :: 32 :: (psTx w ++ if c = [] then [] else upTo' ++ psTx c)
def lTx (l : Lad) : List Nat := TL.numL l.n ++ 58 :: 32 :: TL.joinL [59, 32] (l.rs.map rTx)
end Mx
namespace Sx
open PySem PySem.Spec PyProof.Rows L2 Mx TL
abbrev mkS (l : List Nat) : Str := ⟨l.toArray⟩
theorem mkS_app (a b : List Nat) : mkS a ++ mkS b = mkS (a ++ b) := ext_tl (by rw [tl_append])
theorem mkS_len (a : List Nat) : (mkS a).length = a.length := by rw [len_tl]
theorem str_num (n : Nat) : (toString (n : Int) : Str) = mkS (TL.numL n) := ext_tl (tl_num n)
theorem mkS_join (s : List Nat) (ys : List (List Nat)) : Txt.join (mkS s) (ys.map mkS) = mkS (joinL s ys) := by
  refine ext_tl ?_
  rw [join_eq, tl_join, List.map_map]
  congr 1
  exact List.map_id' _
theorem c_colon : (":" : Str) = mkS [58] := by rfl
theorem c_sp : (" " : Str) = mkS [32] := by rfl
theorem c_f : ("f " : Str) = mkS [102, 32] := by rfl
theorem c_s : ("s " : Str) = mkS [115, 32] := by rfl
theorem c_up : (" up to " : Str) = mkS upTo' := by rfl
theorem c_cs : (": " : Str) = mkS [58, 32] := by rfl
theorem c_semi : ("; " : Str) = mkS [59, 32] := by rfl
theorem log_small {n : Nat} (h : n ≤ 999) : ((n : Int)).natAbs.log2 < 1920 := by
  rw [Int.natAbs_natCast]
  by_cases h0 : n = 0
  · subst h0; decide
  · rw [Nat.log2_lt h0]
    exact Nat.lt_of_lt_of_le (show n < 2 ^ 10 by omega) (Nat.pow_le_pow_right (by decide) (by decide))
theorem num_len {n : Nat} (h : n ≤ 999) : (TL.numL n).length ≤ 3 := TL.numL_len (by decide) (by omega)
theorem fmt_num {n : Nat} (h : n ≤ 999) : fmtD (.int (n : Int)) = some (mkS (TL.numL n)) := by
  show (if ((n : Int)).natAbs.log2 < 1920 then some (toString (n : Int) : Str) else none) = _
  rw [if_pos (log_small h), str_num]
theorem str_num' {n : Nat} (h : n ≤ 999) : strD [.int (n : Int)] = some (.str (mkS (TL.numL n))) := by
  show (if ((n : Int)).natAbs.log2 < 1920 then some (PyData.str (toString (n : Int) : Str)) else none) = _
  rw [if_pos (log_small h), str_num]
theorem pTx_len {p : Nat × Nat} (h1 : p.1 ≤ 999) (h2 : p.2 ≤ 999) : (pTx p).length ≤ 7 := by
  unfold pTx
  rw [List.length_append, List.length_cons]
  have := num_len h1
  have := num_len h2
  omega
theorem joinL_len {s : List Nat} {m : Nat} : ∀ {ys : List (List Nat)}, (∀ y ∈ ys, y.length ≤ m) → (joinL s ys).length ≤ ys.length * (m + s.length)
  | [], _ => by show 0 ≤ _; omega
  | [y], h => by
    have := h y List.mem_cons_self
    show y.length ≤ 1 * (m + s.length)
    omega
  | y :: z :: r, h => by
    have h1 := h y List.mem_cons_self
    have h2 := joinL_len (s := s) (ys := z :: r) fun q hq => h q (List.mem_cons_of_mem _ hq)
    show (y ++ (s ++ joinL s (z :: r))).length ≤ _
    rw [List.length_append, List.length_append, List.length_cons, Nat.succ_mul]
    omega
theorem psTx_len {n m : Nat} {ps : List (Nat × Nat)} (k : POk n m ps) (hn : n ≤ 5) (hm : m ≤ 999) : (psTx ps).length ≤ 40 := by
  have h1 := pok_len k
  have h2 := joinL_len (s := [32]) (m := 7) (ys := ps.map pTx) fun y hy => by
    obtain ⟨p, hp, rfl⟩ := List.mem_map.mp hy
    have := k.el p hp
    exact pTx_len (by omega) (by omega)
  rw [List.length_map] at h2
  have h3 : [32].length = 1 := rfl
  rw [h3] at h2
  unfold psTx
  have : ps.length * (7 + 1) ≤ 5 * (7 + 1) := Nat.mul_le_mul_right _ (by omega)
  omega
theorem strsOf_map (ys : List Str) : strsOf (ys.map PyData.str) = some ys := by
  induction ys with
  | nil => rfl
  | cons y ys ih => rw [List.map_cons]; show (strsOf _).map _ = _; rw [ih]; rfl
theorem sum_le {m : Nat} : ∀ {xs : List Nat}, (∀ x ∈ xs, x ≤ m) → xs.sum ≤ xs.length * m
  | [], _ => by show 0 ≤ _; omega
  | x :: xs, h => by
    have h1 := h x List.mem_cons_self
    have h2 := sum_le fun y hy => h y (List.mem_cons_of_mem x hy)
    rw [List.sum_cons, List.length_cons, Nat.succ_mul]
    omega
theorem join_ok {s : List Nat} {ys : List (List Nat)} (hs : s.length ≤ 10) (hn : ys.length ≤ 10) (hy : ∀ y ∈ ys, y.length ≤ 200) : joinD (.str (mkS s)) (.list ((ys.map mkS).map PyData.str)) = some (.str (mkS (joinL s ys))) := by
  show (strsOf _).bind _ = _
  rw [strsOf_map, Option.bind_some]
  have h1 : ((ys.map mkS).map (·.length)).sum ≤ 10 * 200 := by
    have := sum_le (m := 200) (xs := (ys.map mkS).map (·.length)) fun x hx => by
      obtain ⟨z, hz, rfl⟩ := List.mem_map.mp hx
      obtain ⟨y, hy', rfl⟩ := List.mem_map.mp hz
      rw [mkS_len]; exact hy y hy'
    rw [List.length_map, List.length_map] at this
    have h2 : ys.length * 200 ≤ 10 * 200 := Nat.mul_le_mul_right _ hn
    omega
  have h3 : (ys.map mkS).length * (mkS s).length ≤ 10 * 10 := by
    rw [List.length_map, mkS_len]
    exact Nat.mul_le_mul hn hs
  rw [if_pos (by omega), mkS_join]
theorem add_str {a b : List Nat} (h : a.length + b.length ≤ 1000) : addD (.str (mkS a)) (.str (mkS b)) = some (.str (mkS (a ++ b))) := by
  show (if (mkS a).length + (mkS b).length ≤ 100000 then some (PyData.str (mkS a ++ mkS b)) else none) = _
  rw [mkS_len, mkS_len, if_pos (by omega), mkS_app]
@[simp] theorem eTm_s {g : Dt → Dt → Option Dt} {a b : SE} {ρ : Sl} {W : Tw} : eTm g a b ρ W = (a ρ W).bind fun p => if isStr p.1 = true then (b ρ p.2).bind fun q => ofO (g p.1 q.1) q.2 else .bad := rfl
@[simp] theorem lTm_s {g : Dt → Dt → Option (List Dt)} {a b : SE} {ρ : Sl} {W : Tw} : lTm g a b ρ W = (a ρ W).bind fun p => if isStr p.1 = true then (b ρ p.2).bind fun q => ofO (g p.1 q.1) q.2 else .bad := rfl
@[simp] theorem isStr_s {z : Str} : isStr (.str z) = true := rfl
@[simp] theorem eFst_s {j : SJ} {ρ : Sl} {W : Tw} : eFst j ρ W = (j Str.empty ρ W).bind fun p => .ok (.str p.1, p.2) := rfl
@[simp] theorem jNil_s {acc : Str} {ρ : Sl} {W : Tw} : jNil acc ρ W = .ok (acc, W) := rfl
theorem jE_ok {e : SE} {j : SJ} {acc z : List Nat} {ρ : Sl} {W W1 : Tw} {d : Dt} (h : e ρ W = .ok (d, W1)) (hf : fmtD d = some (mkS z)) (hl : acc.length + z.length ≤ 1000) : jE e j (mkS acc) ρ W = j (mkS (acc ++ z)) ρ W1 := by
  unfold jE
  rw [h, Res.bind_ok]
  simp only [hf]
  rw [mkS_len, mkS_len, if_pos (by omega), mkS_app]
theorem fmt_str {z : List Nat} (h : z.length ≤ 1000) : fmtD (.str (mkS z)) = some (mkS z) := by
  show (if (mkS z).length ≤ 90000 then some (mkS z) else none) = _
  rw [mkS_len, if_pos (by omega)]
section
variable {n m : Nat} {ps : List (Nat × Nat)}
theorem pairs_text_ok (k : POk n m ps) (hn : n ≤ 5) (hm : m ≤ 999) : F_pairs_text [prs ps] = .ok (.str (mkS (psTx ps))) := by
  have hc : cL (gTu 2 (gsCons (gN 1) (gsCons (gN 2) gsNil))) bYes cE_pairs_text_1 [some (.d (prs ps)), none, none] (ps.map pr) none = .ok (((ps.map pTx).map mkS).map PyData.str, none) := by
    rw [List.map_map, List.map_map]
    refine cL_map pr _ _ fun p hp => ⟨[some (.d (prs ps)), some (.d (iD p.1)), some (.d (iD p.2))], rfl, ?_⟩
    have hb := k.el p hp
    have l1 := num_len (n := p.1) (by omega)
    have l2 := num_len (n := p.2) (by omega)
    have e0 : Str.empty = mkS [] := rfl
    show eFst _ _ _ = _
    rw [eFst_s, e0, jE_ok (d := iD p.1) rfl (fmt_num (by omega)) (by simp; omega), jE_ok (d := .str ":") rfl (by rw [c_colon]; exact fmt_str (by decide)) (by simp; omega), jE_ok (d := iD p.2) rfl (fmt_num (by omega)) (by simp; omega)]
    show Res.ok (PyData.str (mkS ([] ++ TL.numL p.1 ++ [58] ++ TL.numL p.2)), none) = .ok (PyData.str (mkS (pTx p)), none)
    unfold pTx
    simp
  have hpl := pok_len k
  have hj := join_ok (s := [32]) (ys := ps.map pTx) (by decide) (by rw [List.length_map]; omega) fun y hy => by
    obtain ⟨p, hp, rfl⟩ := List.mem_map.mp hy
    have := k.el p hp
    exact Nat.le_trans (pTx_len (by omega) (by omega)) (by decide)
  rw [← c_sp] at hj
  have hq : seqOf (prs ps) = some (ps.map pr) := rfl
  have hl : (ps.map pr).length ≤ 100000 := by rw [List.length_map]; omega
  unfold F_pairs_text psTx
  simp only [B_pairs_text]
  generalize ((ps.map pTx).map mkS).map PyData.str = Z at *
  generalize prs ps = P at *
  generalize ps.map pr = PP at *
  simp [hq, hl, wipeOk, hc, hj]
theorem law_row_ok (k : POk n m ps) (hn : n ≤ 5) (hm : m ≤ 999) : F__law_row [prs ps] = .ok (.str (mkS (psTx ps))) := by
  have hc : cL (gTu 2 (gsCons (gN 1) (gsCons (gN 2) gsNil))) bYes cE__law_row_1 [some (.d (prs ps)), none, none] (ps.map pr) none = .ok (((ps.map pTx).map mkS).map PyData.str, none) := by
    rw [List.map_map, List.map_map]
    refine cL_map pr _ _ fun p hp => ⟨[some (.d (prs ps)), some (.d (iD p.1)), some (.d (iD p.2))], rfl, ?_⟩
    have hb := k.el p hp
    have l1 := num_len (n := p.1) (by omega)
    have l2 := num_len (n := p.2) (by omega)
    have s1 := str_num' (n := p.1) (by omega)
    have s2 := str_num' (n := p.2) (by omega)
    have a1 := add_str (a := TL.numL p.1) (b := [58]) (by simp; omega)
    rw [← c_colon] at a1
    have a2 := add_str (a := TL.numL p.1 ++ [58]) (b := TL.numL p.2) (by simp; omega)
    have e : mkS (TL.numL p.1 ++ [58] ++ TL.numL p.2) = mkS (pTx p) := by unfold pTx; simp
    rw [e] at a2
    generalize prs ps = P
    simp only [cE__law_row_1]
    simp [s1, s2, a1, a2]
  have hpl := pok_len k
  have hj := join_ok (s := [32]) (ys := ps.map pTx) (by decide) (by rw [List.length_map]; omega) fun y hy => by
    obtain ⟨p, hp, rfl⟩ := List.mem_map.mp hy
    have := k.el p hp
    exact Nat.le_trans (pTx_len (by omega) (by omega)) (by decide)
  rw [← c_sp] at hj
  have hq : seqOf (prs ps) = some (ps.map pr) := rfl
  have hl : (ps.map pr).length ≤ 100000 := by rw [List.length_map]; omega
  unfold F__law_row psTx
  simp only [B__law_row]
  generalize ((ps.map pTx).map mkS).map PyData.str = Z at *
  generalize prs ps = P at *
  generalize ps.map pr = PP at *
  simp [hq, hl, wipeOk, hc, hj]
end
end Sx

namespace Sx
open PySem PySem.Spec PyProof.Rows L2 Mx TL
theorem rfix0 {p : List (Nat × Nat)} : ixD (rd (.fixed p)) (.int 0) = some (.str "fixed") := rfl
theorem rfix1 {p : List (Nat × Nat)} : ixD (rd (.fixed p)) (.int 1) = some (prs p) := rfl
theorem rsha0 {w c : List (Nat × Nat)} : ixD (rd (.shares w c)) (.int 0) = some (.str "shares") := rfl
theorem rsha1 {w c : List (Nat × Nat)} : ixD (rd (.shares w c)) (.int 1) = some (prs w) := rfl
theorem rsha2 {w c : List (Nat × Nat)} : ixD (rd (.shares w c)) (.int 2) = some (prs c) := rfl
theorem qff : eqD (.str "fixed") (.str "fixed") = some (.bool true) := by kernel_rfl
theorem qfs : eqD (.str "fixed") (.str "shares") = some (.bool false) := by kernel_rfl
theorem qsf : eqD (.str "shares") (.str "fixed") = some (.bool false) := by kernel_rfl
theorem qss : eqD (.str "shares") (.str "shares") = some (.bool true) := by kernel_rfl
theorem ne_prs {c : List (Nat × Nat)} : neD (prs c) (.tuple []) = some (.bool (decide (c ≠ []))) := by
  have h := neD_nilT (ds := c.map pr) (k := 1) (flts_map fun p _ => flt_pr) (by decide)
  have e : (!(c.map pr).isEmpty) = decide (c ≠ []) := by cases c <;> rfl
  rw [e] at h
  exact h
theorem rTx_len {n : Nat} {r : Rung} (k : r.Ok n) (hn : n ≤ 5) : (rTx r).length ≤ 100 := by
  cases r with
  | fixed p =>
    have := psTx_len k.2 hn (by decide)
    show (psTx p).length + 1 + 1 ≤ 100
    omega
  | shares w c =>
    have h1 := psTx_len k.2.1 hn (by decide)
    have h2 := psTx_len k.2.2.1 hn (by decide)
    show (psTx w ++ if c = [] then [] else upTo' ++ psTx c).length + 1 + 1 ≤ 100
    rw [List.length_append]
    split
    · simp; omega
    · rw [List.length_append]
      have : upTo'.length = 7 := rfl
      omega
theorem rung_text_ok {n : Nat} {r : Rung} (k : r.Ok n) (hn : n ≤ 5) : F_rung_text [rd r] = .ok (.str (mkS (rTx r))) := by
  cases r with
  | fixed p =>
    have h1 := pairs_text_ok k.2 hn (by decide)
    have l1 := psTx_len k.2 hn (by decide)
    have a1 := add_str (a := [102, 32]) (b := psTx p) (by simp; omega)
    rw [← c_f] at a1
    have i0 := rfix0 (p := p)
    have i1 := rfix1 (p := p)
    have e : rTx (.fixed p) = [102, 32] ++ psTx p := rfl
    rw [e]
    unfold F_rung_text
    simp only [B_rung_text]
    generalize rd (.fixed p) = R at *
    generalize prs p = P at *
    generalize mkS (psTx p) = T at *
    generalize mkS ([102, 32] ++ psTx p) = T2 at *
    simp [i0, i1, qff, h1, a1]
  | shares w c =>
    have h1 := pairs_text_ok k.2.1 hn (by decide)
    have h2 := pairs_text_ok k.2.2.1 hn (by decide)
    have l1 := psTx_len k.2.1 hn (by decide)
    have l2 := psTx_len k.2.2.1 hn (by decide)
    have a1 := add_str (a := [115, 32]) (b := psTx w) (by simp; omega)
    rw [← c_s] at a1
    have a2 := add_str (a := [115, 32] ++ psTx w) (b := upTo') (by simp [upTo']; omega)
    rw [← c_up] at a2
    have a3 := add_str (a := [115, 32] ++ psTx w ++ upTo') (b := psTx c) (by simp [upTo']; omega)
    have i0 := rsha0 (w := w) (c := c)
    have i1 := rsha1 (w := w) (c := c)
    have i2 := rsha2 (w := w) (c := c)
    have hne := ne_prs (c := c)
    unfold F_rung_text
    simp only [B_rung_text]
    by_cases hc : c = []
    · rw [decide_eq_false (fun z => z hc)] at hne
      have e : rTx (.shares w c) = [115, 32] ++ psTx w := by
        show 115 :: 32 :: (psTx w ++ if c = [] then [] else upTo' ++ psTx c) = _
        rw [if_pos hc, List.append_nil]; rfl
      rw [e]
      generalize rd (.shares w c) = R at *
      generalize prs w = P at *
      generalize prs c = PC at *
      generalize mkS (psTx w) = T at *
      generalize mkS ([115, 32] ++ psTx w) = T2 at *
      simp [i0, i1, i2, qsf, h1, a1, hne]
    · rw [decide_eq_true hc] at hne
      have e : rTx (.shares w c) = [115, 32] ++ psTx w ++ upTo' ++ psTx c := by
        show 115 :: 32 :: (psTx w ++ if c = [] then [] else upTo' ++ psTx c) = _
        rw [if_neg hc]
        simp
      rw [e]
      generalize rd (.shares w c) = R at *
      generalize prs w = P at *
      generalize prs c = PC at *
      generalize mkS (psTx w) = T at *
      generalize mkS (psTx c) = T4 at *
      generalize mkS ([115, 32] ++ psTx w ++ upTo' ++ psTx c) = T5 at *
      generalize mkS ([115, 32] ++ psTx w ++ upTo') = T3 at *
      generalize mkS ([115, 32] ++ psTx w) = T2 at *
      simp [i0, i1, i2, qsf, h1, h2, a1, a2, a3, hne]
section
variable {l : Lad}
theorem rs_join (k : l.Ok) : joinD (.str "; ") (.list (((l.rs.map rTx).map mkS).map PyData.str)) = some (.str (mkS (joinL [59, 32] (l.rs.map rTx)))) := by
  have r4 := k.r4
  rw [c_semi]
  exact join_ok (by decide) (by rw [List.length_map]; omega) fun y hy => by
    obtain ⟨r, hr, rfl⟩ := List.mem_map.mp hy
    exact Nat.le_trans (rTx_len (k.ok r hr) k.n5) (by decide)
theorem rs_len (k : l.Ok) : (joinL [59, 32] (l.rs.map rTx)).length ≤ 410 := by
  have r4 := k.r4
  have h2 := joinL_len (s := [59, 32]) (m := 100) (ys := l.rs.map rTx) fun y hy => by
    obtain ⟨r, hr, rfl⟩ := List.mem_map.mp hy
    exact rTx_len (k.ok r hr) k.n5
  rw [List.length_map] at h2
  have h3 : [59, 32].length = 2 := rfl
  rw [h3] at h2
  have : l.rs.length * (100 + 2) ≤ 4 * (100 + 2) := Nat.mul_le_mul_right _ r4
  omega
theorem lTx_len (k : l.Ok) : (lTx l).length ≤ 420 := by
  have h1 := rs_len k
  have h2 := num_len (n := l.n) (by have := k.n5; omega)
  unfold lTx
  rw [List.length_append, List.length_cons, List.length_cons]
  omega
theorem ladder_text_ok (k : l.Ok) : F_ladder_text [ld l] = .ok (.str (mkS (lTx l))) := by
  have n5 := k.n5
  have r4 := k.r4
  have hc : cL (gN 1) bYes cE_ladder_text_1 [some (.d (ld l)), none] (l.rs.map rd) none = .ok (((l.rs.map rTx).map mkS).map PyData.str, none) := by
    rw [List.map_map, List.map_map]
    refine cL_map rd _ _ fun r hr => ⟨[some (.d (ld l)), some (.d (rd r))], rfl, ?_⟩
    have h := rung_text_ok (k.ok r hr) n5
    generalize ld l = L
    generalize rd r = R at *
    simp only [cE_ladder_text_1]
    simp [h]
  have hj := rs_join k
  have hl := rs_len k
  have i0 : ixD (ld l) (.int 0) = some (.int (l.n : Int)) := rfl
  have i1 : ixD (ld l) (.int 1) = some (.tuple (l.rs.map rd)) := rfl
  have hn := num_len (n := l.n) (by omega)
  have hfst : eFst (jE (eBin ixD (eVar 0) (eC (.int 0))) (jE (eC (.str ": ")) jNil)) [some (.d (ld l)), none] none = .ok (.str (mkS (TL.numL l.n ++ [58, 32])), none) := by
    have e0 : Str.empty = mkS [] := rfl
    rw [eFst_s, e0, jE_ok (d := .int (l.n : Int)) (W1 := none) (by generalize ld l = L at *; simp [i0]) (fmt_num (by omega)) (by simp; omega), jE_ok (d := .str ": ") (W1 := none) rfl (by rw [c_cs]; exact fmt_str (by decide)) (by simp; omega)]
    simp
  have a1 := add_str (a := TL.numL l.n ++ [58, 32]) (b := joinL [59, 32] (l.rs.map rTx)) (by simp; omega)
  have e : lTx l = TL.numL l.n ++ [58, 32] ++ joinL [59, 32] (l.rs.map rTx) := by unfold lTx; simp
  rw [e]
  have hrl : (l.rs.map rd).length ≤ 100000 := by rw [List.length_map]; omega
  unfold F_ladder_text
  simp only [B_ladder_text]
  generalize ((l.rs.map rTx).map mkS).map PyData.str = Z at *
  generalize ld l = L at *
  generalize l.rs.map rd = RS at *
  generalize mkS (TL.numL l.n ++ [58, 32] ++ joinL [59, 32] (l.rs.map rTx)) = T1 at *
  generalize mkS (TL.numL l.n ++ [58, 32]) = T2 at *
  generalize mkS (joinL [59, 32] (l.rs.map rTx)) = T3 at *
  generalize eFst (jE (eBin ixD (eVar 0) (eC (.int 0))) (jE (eC (.str ": ")) jNil)) = E1 at *
  simp [hfst, i1, wipeOk, hrl, hc, hj, a1]
theorem format_ladder_ok (k : l.Ok) : F_format_ladder [ld l] = .ok (.str (mkS (lTx l))) := by
  have h1 := check_ladder_ok k
  have h2 := ladder_text_ok k
  unfold F_format_ladder
  simp only [B_format_ladder]
  generalize ld l = L at *
  simp [h1, h2]
theorem line_loop {L : Dt} {n : Nat} (hn : n ≤ 5) : ∀ (rs : List Rung) (acc : List Dt) (a2 a3 : Option SV), (∀ r ∈ rs, r.Ok n) → acc.length + rs.length ≤ 50 →
    ∃ b2 b3, fL (gN 2) lB__law_line_1 (rs.map rd) [some (.d L), some (.own acc), a2, a3] none = .nx [some (.d L), some (.own (acc ++ ((rs.map rTx).map mkS).map PyData.str)), b2, b3] none
  | [], acc, a2, a3, _, _ => ⟨a2, a3, by simp⟩
  | r :: rs, acc, a2, a3, hk, hl => by
    have kr := hk r List.mem_cons_self
    have hal : acc.length < 100000 := by simp at hl; omega
    obtain ⟨b2, b3, ih⟩ := line_loop (L := L) hn rs (acc ++ [.str (mkS (rTx r))]) (some (.d (rd r))) (some (.d (.str (mkS (rTx r))))) (fun q hq => hk q (List.mem_cons_of_mem _ hq)) (by simp at hl ⊢; omega)
    refine ⟨b2, b3, ?_⟩
    rw [List.map_cons, fL_step (ρ1 := [some (.d L), some (.own acc), some (.d (rd r)), a3]) (ρ2 := [some (.d L), some (.own (acc ++ [.str (mkS (rTx r))])), some (.d (rd r)), some (.d (.str (mkS (rTx r))))]) (W2 := none) rfl ?_, ih]
    · simp
    · cases r with
      | fixed p =>
        have h1 := law_row_ok kr.2 hn (by decide)
        have l1 := psTx_len kr.2 hn (by decide)
        have a1 := add_str (a := [102, 32]) (b := psTx p) (by simp; omega)
        rw [← c_f] at a1
        have i0 := rfix0 (p := p)
        have i1 := rfix1 (p := p)
        have e : rTx (.fixed p) = [102, 32] ++ psTx p := rfl
        rw [e]
        generalize rd (.fixed p) = R at *
        generalize prs p = P at *
        generalize mkS (psTx p) = T at *
        generalize mkS ([102, 32] ++ psTx p) = T2 at *
        simp [lB__law_line_1, i0, i1, qff, qfs, h1, a1, hal]
      | shares w c =>
        have h1 := law_row_ok kr.2.1 hn (by decide)
        have h2 := law_row_ok kr.2.2.1 hn (by decide)
        have l1 := psTx_len kr.2.1 hn (by decide)
        have l2 := psTx_len kr.2.2.1 hn (by decide)
        have a1 := add_str (a := [115, 32]) (b := psTx w) (by simp; omega)
        rw [← c_s] at a1
        have a2 := add_str (a := [115, 32] ++ psTx w) (b := upTo') (by simp [upTo']; omega)
        rw [← c_up] at a2
        have a3 := add_str (a := [115, 32] ++ psTx w ++ upTo') (b := psTx c) (by simp [upTo']; omega)
        have i0 := rsha0 (w := w) (c := c)
        have i1 := rsha1 (w := w) (c := c)
        have i2 := rsha2 (w := w) (c := c)
        have hne := ne_prs (c := c)
        by_cases hc : c = []
        · rw [decide_eq_false (fun z => z hc)] at hne
          have e : rTx (.shares w c) = [115, 32] ++ psTx w := by
            show 115 :: 32 :: (psTx w ++ if c = [] then [] else upTo' ++ psTx c) = _
            rw [if_pos hc, List.append_nil]; rfl
          rw [e]
          generalize rd (.shares w c) = R at *
          generalize prs w = P at *
          generalize prs c = PC at *
          generalize mkS (psTx w) = T at *
          generalize mkS ([115, 32] ++ psTx w) = T2 at *
          simp [lB__law_line_1, i0, i1, i2, qsf, qss, h1, a1, hne, hal]
        · rw [decide_eq_true hc] at hne
          have e : rTx (.shares w c) = [115, 32] ++ psTx w ++ upTo' ++ psTx c := by
            show 115 :: 32 :: (psTx w ++ if c = [] then [] else upTo' ++ psTx c) = _
            rw [if_neg hc]
            simp
          rw [e]
          generalize rd (.shares w c) = R at *
          generalize prs w = P at *
          generalize prs c = PC at *
          generalize mkS (psTx w) = T at *
          generalize mkS (psTx c) = T4 at *
          generalize mkS ([115, 32] ++ psTx w ++ upTo' ++ psTx c) = T5 at *
          generalize mkS ([115, 32] ++ psTx w ++ upTo') = T3 at *
          generalize mkS ([115, 32] ++ psTx w) = T2 at *
          simp [lB__law_line_1, i0, i1, i2, qsf, qss, h1, h2, a1, a2, a3, hne, hal]
theorem law_line_ok (k : l.Ok) : F__law_line [ld l] = .ok (.str (mkS (lTx l))) := by
  have n5 := k.n5
  have r4 := k.r4
  obtain ⟨b2, b3, hlp⟩ := line_loop (L := ld l) n5 l.rs [] none none k.ok (by simp; omega)
  rw [List.nil_append] at hlp
  have hj := rs_join k
  have hl := rs_len k
  have i0 : ixD (ld l) (.int 0) = some (.int (l.n : Int)) := rfl
  have i1 : ixD (ld l) (.int 1) = some (.tuple (l.rs.map rd)) := rfl
  have hn := num_len (n := l.n) (by omega)
  have s1 := str_num' (n := l.n) (by omega)
  have a0 := add_str (a := TL.numL l.n) (b := [58, 32]) (by simp; omega)
  rw [← c_cs] at a0
  have a1 := add_str (a := TL.numL l.n ++ [58, 32]) (b := joinL [59, 32] (l.rs.map rTx)) (by simp; omega)
  have e : lTx l = TL.numL l.n ++ [58, 32] ++ joinL [59, 32] (l.rs.map rTx) := by unfold lTx; simp
  rw [e]
  unfold F__law_line
  simp only [B__law_line]
  generalize ((l.rs.map rTx).map mkS).map PyData.str = Z at *
  generalize ld l = L at *
  generalize l.rs.map rd = RS at *
  generalize mkS (TL.numL l.n ++ [58, 32] ++ joinL [59, 32] (l.rs.map rTx)) = T1 at *
  generalize mkS (TL.numL l.n ++ [58, 32]) = T2 at *
  generalize mkS (joinL [59, 32] (l.rs.map rTx)) = T3 at *
  generalize mkS (TL.numL l.n) = T4 at *
  simp [i0, i1, hlp, s1, a0, a1, hj]
end
end Sx

namespace Mx
/-! ### texts read -/
def isDig (c : Nat) : Bool := decide (c ∈ ([48, 49, 50, 51, 52, 53, 54, 55, 56, 57] : List Nat))
def nv (w : List Nat) : Int := if 1 ≤ w.length ∧ w.length ≤ 3 ∧ w.all isDig = true then (PySem.NumText.digitsVal w : Int) else -1
abbrev sp (y w : List Nat) : List (List Nat) := TL.spl y 0 [] w
theorem spl_small {y : List Nat} : ∀ (k : Nat) (acc l : List Nat), (∀ u ∈ TL.spl y k acc l, u.length ≤ acc.length + l.length) ∧ (TL.spl y k acc l).length ≤ l.length + 1
  | k, acc, [] => by
    rw [TL.spl_nil]
    refine ⟨fun u hu => ?_, Nat.le_refl _⟩
    rw [List.mem_singleton.mp hu]; simp
  | 0, acc, c :: r => by
    cases hp : TL.pre y (c :: r) with
    | true =>
      rw [TL.spl_hit hp]
      obtain ⟨h1, h2⟩ := spl_small (y := y) (y.length - 1) [] r
      refine ⟨fun u hu => ?_, by simp; omega⟩
      rcases List.mem_cons.mp hu with z | z
      · rw [z]; omega
      · have := h1 u z
        simp at this ⊢; omega
    | false =>
      rw [TL.spl_miss hp]
      obtain ⟨h1, h2⟩ := spl_small (y := y) 0 (acc ++ [c]) r
      refine ⟨fun u hu => ?_, by simp; omega⟩
      have := h1 u hu
      simp at this ⊢; omega
  | k + 1, acc, c :: r => by
    obtain ⟨h1, h2⟩ := spl_small (y := y) k acc r
    show (∀ u ∈ TL.spl y k acc r, _) ∧ (TL.spl y k acc r).length ≤ _
    refine ⟨fun u hu => ?_, by simp; omega⟩
    have := h1 u hu
    simp; omega
theorem sp_len {y w u : List Nat} (h : u ∈ sp y w) : u.length ≤ w.length := by
  have := (spl_small (y := y) 0 [] w).1 u h
  simpa using this
theorem sp_num {y w : List Nat} : (sp y w).length ≤ w.length + 1 := (spl_small 0 [] w).2
theorem sp_ne {y w : List Nat} : sp y w ≠ [] := by
  have key : ∀ (k : Nat) (acc l : List Nat), TL.spl y k acc l ≠ [] := by
    intro k acc l
    induction l generalizing k acc with
    | nil => rw [TL.spl_nil]; simp
    | cons c r ih =>
      cases k with
      | zero =>
        cases hp : TL.pre y (c :: r) with
        | true => rw [TL.spl_hit hp]; simp
        | false => rw [TL.spl_miss hp]; exact ih _ _
      | succ k => exact ih k acc
  exact key 0 [] w
end Mx
namespace Sx
open PySem PySem.Spec PyProof.Rows L2 Mx TL
theorem number_of_ok {w : List Nat} (h : w.length ≤ 1000) : F_number_of [.str (mkS w)] = .ok (.int (nv w)) := by
  have hc : cL (gN 1) bYes cE_number_of_1 [some (.d (.str (mkS w))), none] (chrs (mkS w)) none = .ok (w.map fun c => PyData.bool (isDig c), none) := by
    show cL (gN 1) bYes cE_number_of_1 [some (.d (.str (mkS w))), none] (w.map fun c => PyData.str ⟨#[c]⟩) none = _
    refine cL_map (fun c : Nat => PyData.str ⟨#[c]⟩) _ _ fun c hcm => ⟨[some (.d (.str (mkS w))), some (.d (.str ⟨#[c]⟩))], rfl, ?_⟩
    have hi : inTD (.str ⟨#[c]⟩) (.str "0123456789") = some (.bool (isDig c)) := rfl
    generalize mkS w = T
    simp only [cE_number_of_1]
    simp [hi]
  have ha := allD_map isDig w
  have hl : lenD [.str (mkS w)] = some (.int (w.length : Int)) := by
    show (if (mkS w).length ≤ 100000 then some (PyData.int ((mkS w).length : Int)) else none) = _
    rw [mkS_len, if_pos (by omega)]
  have hcl : (chrs (mkS w)).length ≤ 100000 := by
    show (w.map _).length ≤ 100000
    rw [List.length_map]; omega
  have hch : iChr (eVar 0) [some (.d (.str (mkS w))), none] none = .ok (chrs (mkS w), none) := rfl
  by_cases h1 : 1 ≤ w.length ∧ w.length ≤ 3
  · by_cases h2 : w.all isDig = true
    · have hd : NumText.AllDigits w := fun c hcm => by
        have := List.all_eq_true.mp h2 c hcm
        unfold isDig at this
        have := of_decide_eq_true this
        simp at this
        omega
      have hi : intTD [.str (mkS w)] = some (.int (nv w)) := by
        show (if (mkS w).length ≤ 600 then (PySem.intText? (mkS w)).map PyData.int else none) = _
        rw [mkS_len, if_pos (by omega), intText_digits (x := mkS w) hd (fun z => by
          have z : w = [] := z
          rw [z] at h1; simp at h1) (by rw [mkS_len]; omega)]
        unfold nv
        rw [if_pos ⟨h1.1, h1.2, h2⟩]
        rfl
      rw [h2] at ha
      unfold F_number_of
      simp only [B_number_of]
      generalize chrs (mkS w) = CH at *
      generalize iChr (eVar 0) = IC at *
      generalize mkS w = T at *
      generalize (w.map fun c => PyData.bool (isDig c)) = BL at *
      generalize nv w = N at *
      simp [hl, show (1 : Int) ≤ (w.length : Int) by omega, show (w.length : Int) ≤ 3 by omega, hch, wipeOk, hcl, hc, ha, hi]
    · have hn : nv w = -1 := by unfold nv; rw [if_neg fun z => h2 z.2.2]
      rw [hn]
      have h2 : w.all isDig = false := by simpa using h2
      rw [h2] at ha
      unfold F_number_of
      simp only [B_number_of]
      generalize chrs (mkS w) = CH at *
      generalize iChr (eVar 0) = IC at *
      generalize mkS w = T at *
      generalize (w.map fun c => PyData.bool (isDig c)) = BL at *
      simp [hl, show (1 : Int) ≤ (w.length : Int) by omega, show (w.length : Int) ≤ 3 by omega, hch, wipeOk, hcl, hc, ha]
  · have hn : nv w = -1 := by unfold nv; rw [if_neg fun z => h1 ⟨z.1, z.2.1⟩]
    rw [hn]
    unfold F_number_of
    simp only [B_number_of]
    generalize mkS w = T at *
    by_cases h3 : 1 ≤ w.length
    · have : 3 < w.length := by omega
      simp [hl, show (1 : Int) ≤ (w.length : Int) by omega, show ¬ (w.length : Int) ≤ 3 by omega]
    · simp [hl, show ¬ (1 : Int) ≤ (w.length : Int) by omega]
theorem split_ok {y w : List Nat} (hy : y ≠ []) (hk : y.all (· < 256) = true) (h : w.length ≤ 90000) : splitD (.str (mkS w)) (.str (mkS y)) = some ((sp y w).map fun u => PyData.str (mkS u)) := by
  have e : Txt.split (mkS w) (mkS y) = (sp y w).map mkS := by
    refine map_tl_inj ?_
    rw [split_spl _ _ (show tl (mkS y) ≠ [] from hy) (kind_ok (by
      show (y.toArray).all (· < 256) = true
      rw [List.all_toArray]; exact hk)), List.map_map]
    exact (List.map_id' _).symm
  show (if (mkS y).length ≠ 0 ∧ (mkS w).length ≤ 90000 then some ((Txt.split (mkS w) (mkS y)).map PyData.str) else none) = _
  rw [mkS_len, mkS_len, if_pos ⟨fun z => hy (List.length_eq_zero_iff.mp z), h⟩, e, List.map_map]
  rfl
/-- pairs, as they are read -/
def rpD (w : List Nat) : Dt := .tuple ((sp [32] w).map fun u => .tuple ((sp [58] u).map fun v => .int (nv v)))
theorem read_pairs_ok {w : List Nat} (h : w.length ≤ 1000) : F_read_pairs [.str (mkS w)] = .ok (rpD w) := by
  have hs := split_ok (y := [32]) (w := w) (by simp) (by decide) (by omega)
  rw [← c_sp] at hs
  have hc : cL (gN 1) bYes cE_read_pairs_1 [some (.d (.str (mkS w))), none, none] ((sp [32] w).map fun u => PyData.str (mkS u)) none = .ok ((sp [32] w).map fun u => PyData.tuple ((sp [58] u).map fun v => .int (nv v)), none) := by
    refine cL_map (fun u : List Nat => PyData.str (mkS u)) _ _ fun u hu => ⟨[some (.d (.str (mkS w))), some (.d (.str (mkS u))), none], rfl, ?_⟩
    have hul := sp_len hu
    have hs2 := split_ok (y := [58]) (w := u) (by simp) (by decide) (by omega)
    rw [← c_colon] at hs2
    have hc2 : cL (gN 2) bYes cE_read_pairs_2 [some (.d (.str (mkS w))), some (.d (.str (mkS u))), none] ((sp [58] u).map fun v => PyData.str (mkS v)) none = .ok ((sp [58] u).map fun v => PyData.int (nv v), none) := by
      refine cL_map (fun v : List Nat => PyData.str (mkS v)) _ _ fun v hv => ⟨[some (.d (.str (mkS w))), some (.d (.str (mkS u))), some (.d (.str (mkS v)))], rfl, ?_⟩
      have hvl := sp_len hv
      have hn := number_of_ok (w := v) (by omega)
      generalize mkS w = T1
      generalize mkS u = T2
      generalize mkS v = T3 at *
      simp only [cE_read_pairs_2]
      simp [hn]
    have hl2 : ((sp [58] u).map fun v => PyData.str (mkS v)).length ≤ 100000 := by
      rw [List.length_map]
      have := sp_num (y := [58]) (w := u)
      omega
    generalize mkS w = T1 at *
    generalize mkS u = T2 at *
    generalize ((sp [58] u).map fun v => PyData.str (mkS v)) = Z1 at *
    generalize ((sp [58] u).map fun v => PyData.int (nv v)) = Z2 at *
    simp only [cE_read_pairs_1]
    simp [hs2, wipeOk, hl2, hc2]
  have hl : ((sp [32] w).map fun u => PyData.str (mkS u)).length ≤ 100000 := by
    rw [List.length_map]
    have := sp_num (y := [32]) (w := w)
    omega
  unfold F_read_pairs rpD
  simp only [B_read_pairs]
  generalize mkS w = T1 at *
  generalize ((sp [32] w).map fun u => PyData.str (mkS u)) = Z1 at *
  generalize ((sp [32] w).map fun u => PyData.tuple ((sp [58] u).map fun v => .int (nv v))) = Z2 at *
  simp [hs, wipeOk, hl, hc]
theorem cutS_take {w : List Nat} {n : Nat} : cutS (mkS w) none (some (n : Int)) = mkS (w.take n) := by
  unfold cutS
  rw [HT.sIx_nat, HT.sIx_none, List.drop_zero, Nat.sub_zero, mkS_len]
  congr 1
  by_cases h : n ≤ w.length
  · rw [Nat.min_eq_left h]
  · rw [Nat.min_eq_right (by omega), List.take_of_length_le (Nat.le_refl _), List.take_of_length_le (by omega)]
theorem cutS_drop {w : List Nat} {n : Nat} : cutS (mkS w) (some (n : Int)) none = mkS (w.drop n) := by
  unfold cutS
  rw [HT.sIx_nat, HT.sIx_none, mkS_len]
  congr 1
  by_cases h : n ≤ w.length
  · rw [Nat.min_eq_left h, List.take_of_length_le (by rw [List.length_drop]; exact Nat.le_refl _)]
  · rw [Nat.min_eq_right (by omega), List.drop_of_length_le (show w.length ≤ n by omega)]
    simp
def Asc8 (w : List Nat) : Prop := ∀ c ∈ w, c < 1000
theorem shaped_str {w : List Nat} (hk : Asc8 w) : SeqAt.shaped (.str (mkS w)) = true := by
  have h : PyData.canLay0 (.str (mkS w)) = true := by
    show (w.toArray).all (· < 0x110000) = true
    rw [List.all_toArray, List.all_eq_true]
    intro c hc
    have := hk c hc
    simp; omega
  unfold SeqAt.shaped
  rw [h]
  rfl
theorem beq_mk {a b : List Nat} : ((mkS a) == (mkS b)) = decide (a = b) := by
  by_cases h : a = b
  · subst h; simp
  · rw [decide_eq_false h]
    rw [beq_eq_false_iff_ne]
    intro z
    exact h (by have := congrArg tl z; exact this)
theorem eq_mk {a b : List Nat} (ha : Asc8 a) (hb : Asc8 b) : eqD (.str (mkS a)) (.str (mkS b)) = some (.bool (decide (a = b))) := eqD_str (shaped_str ha) (shaped_str hb) beq_mk
theorem ne_mk {a b : List Nat} (ha : Asc8 a) (hb : Asc8 b) : neD (.str (mkS a)) (.str (mkS b)) = some (.bool (!decide (a = b))) := neD_str (shaped_str ha) (shaped_str hb) beq_mk
theorem Asc8.take {w : List Nat} (h : Asc8 w) (n : Nat) : Asc8 (w.take n) := fun c hc => h c (List.mem_of_mem_take hc)
theorem Asc8.drop {w : List Nat} (h : Asc8 w) (n : Nat) : Asc8 (w.drop n) := fun c hc => h c (List.mem_of_mem_drop hc)
theorem spl_mem {y : List Nat} : ∀ (k : Nat) (acc l : List Nat) (u : List Nat), u ∈ TL.spl y k acc l → ∀ c ∈ u, c ∈ acc ∨ c ∈ l
  | k, acc, [], u, hu, c, hc => by
    rw [TL.spl_nil] at hu
    rw [List.mem_singleton.mp hu] at hc
    exact .inl hc
  | 0, acc, x :: r, u, hu, c, hc => by
    cases hp : TL.pre y (x :: r) with
    | true =>
      rw [TL.spl_hit hp] at hu
      rcases List.mem_cons.mp hu with z | z
      · rw [z] at hc; exact .inl hc
      · rcases spl_mem _ _ _ u z c hc with q | q
        · cases q
        · exact .inr (List.mem_cons_of_mem _ q)
    | false =>
      rw [TL.spl_miss hp] at hu
      rcases spl_mem _ _ _ u hu c hc with q | q
      · rcases List.mem_append.mp q with q | q
        · exact .inl q
        · rw [List.mem_singleton.mp q]; exact .inr List.mem_cons_self
      · exact .inr (List.mem_cons_of_mem _ q)
  | k + 1, acc, x :: r, u, hu, c, hc => by
    rcases spl_mem k acc r u hu c hc with q | q
    · exact .inl q
    · exact .inr (List.mem_cons_of_mem _ q)
theorem Asc8.sp {w y u : List Nat} (h : Asc8 w) (hu : u ∈ sp y w) : Asc8 u := fun c hc => by
  rcases spl_mem 0 [] w u hu c hc with q | q
  · cases q
  · exact h c q
/-- a rung, as it is read -/
def rrD (w : List Nat) : Dt := if w.take 2 = [102, 32] then .tuple [.str "fixed", rpD (w.drop 2)] else
  if w.take 2 = [115, 32] then match sp upTo' (w.drop 2) with
    | [a] => .tuple [.str "shares", rpD a, .tuple []]
    | [a, b] => .tuple [.str "shares", rpD a, rpD b]
    | _ => .none
  else .none
theorem asc_f : Asc8 [102, 32] := by unfold Asc8; decide
theorem asc_s : Asc8 [115, 32] := by unfold Asc8; decide
theorem read_rung_ok {w : List Nat} (h : w.length ≤ 1000) (ha : Asc8 w) : F_read_rung [.str (mkS w)] = .ok (rrD w) := by
  have sl1 : sliceD (.str (mkS w)) none (some 2) = some (.str (mkS (w.take 2))) := by
    show (if (mkS w).length ≤ 100000 then some (PyData.str (cutS (mkS w) none (some 2))) else none) = _
    rw [mkS_len, if_pos (by omega)]
    have := cutS_take (w := w) (n := 2)
    exact congrArg (fun z => some (PyData.str z)) this
  have sl2 : sliceD (.str (mkS w)) (some 2) none = some (.str (mkS (w.drop 2))) := by
    show (if (mkS w).length ≤ 100000 then some (PyData.str (cutS (mkS w) (some 2) none)) else none) = _
    rw [mkS_len, if_pos (by omega)]
    have := cutS_drop (w := w) (n := 2)
    exact congrArg (fun z => some (PyData.str z)) this
  have hdl : (w.drop 2).length ≤ 1000 := by rw [List.length_drop]; omega
  have e1 := eq_mk (ha.take 2) asc_f
  rw [← c_f] at e1
  have e2 := ne_mk (ha.take 2) asc_s
  rw [← c_s] at e2
  have hsp := split_ok (y := upTo') (w := w.drop 2) (by simp [upTo']) (by decide) (by omega)
  rw [← c_up] at hsp
  have hr := read_pairs_ok hdl
  unfold F_read_rung
  simp only [B_read_rung]
  unfold rrD
  by_cases h1 : w.take 2 = [102, 32]
  · rw [decide_eq_true h1] at e1
    rw [if_pos h1]
    generalize rpD (w.drop 2) = R at *
    generalize mkS (w.drop 2) = T2 at *
    generalize mkS (w.take 2) = T3 at *
    generalize mkS w = T at *
    simp [sl1, sl2, e1, hr]
  · rw [decide_eq_false h1] at e1
    rw [if_neg h1]
    have hmem : ∀ u ∈ sp upTo' (w.drop 2), u.length ≤ 1000 := fun u hu => Nat.le_trans (sp_len hu) hdl
    have hrs : ∀ u ∈ sp upTo' (w.drop 2), F_read_pairs [.str (mkS u)] = .ok (rpD u) := fun u hu => read_pairs_ok (hmem u hu)
    have hne := sp_ne (y := upTo') (w := w.drop 2)
    have hnum : ((sp upTo' (w.drop 2)).map fun u => PyData.str (mkS u)).length ≤ 100000 := by
      rw [List.length_map]
      have := sp_num (y := upTo') (w := w.drop 2)
      omega
    by_cases h2 : w.take 2 = [115, 32]
    · rw [decide_eq_true h2] at e2
      rw [if_pos h2]
      generalize hS : sp upTo' (w.drop 2) = S at *
      match S, hS, hsp, hrs, hne with
      | [], _, _, _, hne => exact absurd rfl hne
      | [a], _, hsp, hrs, _ =>
        have ra := hrs a List.mem_cons_self
        generalize mkS (w.drop 2) = T2 at *
        generalize mkS (w.take 2) = T3 at *
        generalize mkS w = T at *
        simp at hsp
        simp [sl1, sl2, e1, e2, hsp, ra]
      | [a, b], _, hsp, hrs, _ =>
        have ra := hrs a List.mem_cons_self
        have rb := hrs b (List.mem_cons_of_mem _ List.mem_cons_self)
        generalize mkS (w.drop 2) = T2 at *
        generalize mkS (w.take 2) = T3 at *
        generalize mkS w = T at *
        simp at hsp
        simp [sl1, sl2, e1, e2, hsp, ra, rb]
      | a :: b :: c :: r, _, hsp, hrs, _ =>
        generalize mkS (w.drop 2) = T2 at *
        generalize mkS (w.take 2) = T3 at *
        generalize mkS w = T at *
        simp at hsp
        simp [sl1, sl2, e1, e2, hsp, show (2 : Int) < (r.length : Int) + 1 + 1 + 1 by omega]
    · rw [decide_eq_false h2] at e2
      rw [if_neg h2]
      generalize ((sp upTo' (w.drop 2)).map fun u => PyData.str (mkS u)) = Z at *
      generalize mkS (w.drop 2) = T2 at *
      generalize mkS (w.take 2) = T3 at *
      generalize mkS w = T at *
      simp [sl1, sl2, e1, e2, hsp]
/-- a ladder, as it is read -/
def sides0 (z : List Nat) : List Nat := (sp [58, 32] z).headD []
def sidesL (z : List Nat) : List Nat := ((sp [58, 32] z).getLast?).getD []
def foD (z : List Nat) : Dt := .tuple [.int (nv (sides0 z)), .tuple ((sp [59, 32] (sidesL z)).map rrD)]
theorem sides_mem {z : List Nat} : sides0 z ∈ sp [58, 32] z ∧ sidesL z ∈ sp [58, 32] z := by
  have hne := sp_ne (y := [58, 32]) (w := z)
  unfold sides0 sidesL
  cases h : sp [58, 32] z with
  | nil => exact absurd h hne
  | cons a r =>
    refine ⟨List.mem_cons_self, ?_⟩
    rw [List.getLast?_eq_some_getLast (by simp)]
    exact List.getLast_mem _
section
variable {z : List Nat}
theorem parse_steps (h : z.length ≤ 900) (ha : Asc8 z) :
    splitD (.str (mkS z)) (.str ": ") = some ((sp [58, 32] z).map fun u => PyData.str (mkS u)) ∧
    atI ((sp [58, 32] z).map fun u => PyData.str (mkS u)) 0 = some (.str (mkS (sides0 z))) ∧
    atI ((sp [58, 32] z).map fun u => PyData.str (mkS u)) (-1) = some (.str (mkS (sidesL z))) ∧
    F_number_of [.str (mkS (sides0 z))] = .ok (.int (nv (sides0 z))) ∧
    splitD (.str (mkS (sidesL z))) (.str "; ") = some ((sp [59, 32] (sidesL z)).map fun u => PyData.str (mkS u)) ∧
    (∀ u ∈ sp [59, 32] (sidesL z), F_read_rung [.str (mkS u)] = .ok (rrD u)) ∧ ((sp [59, 32] (sidesL z)).map fun u => PyData.str (mkS u)).length ≤ 100000 := by
  obtain ⟨m1, m2⟩ := sides_mem (z := z)
  have l1 := sp_len m1
  have l2 := sp_len m2
  have s1 := split_ok (y := [58, 32]) (w := z) (by simp) (by decide) (by omega)
  rw [← c_cs] at s1
  have s2 := split_ok (y := [59, 32]) (w := sidesL z) (by simp) (by decide) (by omega)
  rw [← c_semi] at s2
  refine ⟨s1, ?_, ?_, number_of_ok (by omega), s2, fun u hu => read_rung_ok (by have := sp_len hu; omega) ((ha.sp m2).sp hu), ?_⟩
  · have hne := sp_ne (y := [58, 32]) (w := z)
    unfold sides0
    cases hs : sp [58, 32] z with
    | nil => exact absurd hs hne
    | cons a r => simp
  · have hne := sp_ne (y := [58, 32]) (w := z)
    unfold sidesL
    obtain ⟨r, a, e⟩ : ∃ r a, sp [58, 32] z = r ++ [a] := ⟨_, _, (List.dropLast_concat_getLast hne).symm⟩
    rw [e, List.map_append, List.map_singleton, atI_last]
    simp
  · rw [List.length_map]
    have := sp_num (y := [59, 32]) (w := sidesL z)
    omega
theorem parse_false (h : z.length ≤ 900) (ha : Asc8 z) (hf : F_is_ladder [foD z] = .ok (.bool false)) : F_X_parse_ladder [.str (mkS z)] = .exc "InvalidText" := by
  obtain ⟨s1, a0, a1, n0, s2, hr, hl⟩ := parse_steps h ha
  have hc : cL (gN 3) bYes cE_X_parse_ladder_1 [some (.d (.str (mkS z))), some (.d (.list ((sp [58, 32] z).map fun u => PyData.str (mkS u)))), none, none] ((sp [59, 32] (sidesL z)).map fun u => PyData.str (mkS u)) none = .ok ((sp [59, 32] (sidesL z)).map rrD, none) := by
    refine cL_map (fun u : List Nat => PyData.str (mkS u)) _ _ fun u hu => ⟨[some (.d (.str (mkS z))), some (.d (.list ((sp [58, 32] z).map fun u => PyData.str (mkS u)))), none, some (.d (.str (mkS u)))], rfl, ?_⟩
    have h1 := hr u hu
    generalize mkS u = U at *
    generalize ((sp [58, 32] z).map fun u => PyData.str (mkS u)) = Z
    simp only [cE_X_parse_ladder_1]
    simp [h1]
  have hi : isiD "str" (.str (mkS z)) = some (.bool true) := rfl
  unfold foD at hf
  unfold F_X_parse_ladder
  simp only [B_X_parse_ladder]
  generalize ((sp [58, 32] z).map fun u => PyData.str (mkS u)) = Z1 at *
  generalize ((sp [59, 32] (sidesL z)).map fun u => PyData.str (mkS u)) = Z2 at *
  generalize (sp [59, 32] (sidesL z)).map rrD = Z3 at *
  generalize mkS (sides0 z) = T0 at *
  generalize mkS (sidesL z) = T1 at *
  generalize mkS z = T at *
  simp [hi, s1, a0, a1, n0, s2, wipeOk, hl, hc, hf]
theorem parse_true {l : Lad} (h : z.length ≤ 900) (ha : Asc8 z) (k : l.Ok) (hf : foD z = ld l) (hal : Asc8 (lTx l)) : F_X_parse_ladder [.str (mkS z)] = if lTx l = z then .ok (ld l) else .exc "InvalidText" := by
  obtain ⟨s1, a0, a1, n0, s2, hr, hl⟩ := parse_steps h ha
  have hc : cL (gN 3) bYes cE_X_parse_ladder_1 [some (.d (.str (mkS z))), some (.d (.list ((sp [58, 32] z).map fun u => PyData.str (mkS u)))), none, none] ((sp [59, 32] (sidesL z)).map fun u => PyData.str (mkS u)) none = .ok ((sp [59, 32] (sidesL z)).map rrD, none) := by
    refine cL_map (fun u : List Nat => PyData.str (mkS u)) _ _ fun u hu => ⟨[some (.d (.str (mkS z))), some (.d (.list ((sp [58, 32] z).map fun u => PyData.str (mkS u)))), none, some (.d (.str (mkS u)))], rfl, ?_⟩
    have h1 := hr u hu
    generalize mkS u = U at *
    generalize ((sp [58, 32] z).map fun u => PyData.str (mkS u)) = Z
    simp only [cE_X_parse_ladder_1]
    simp [h1]
  have hi : isiD "str" (.str (mkS z)) = some (.bool true) := rfl
  have il := is_ladder_true k
  have lt := ladder_text_ok k
  have hne := ne_mk hal ha
  rw [← hf] at il lt ⊢
  unfold foD at il lt ⊢
  unfold F_X_parse_ladder
  simp only [B_X_parse_ladder]
  generalize ((sp [58, 32] z).map fun u => PyData.str (mkS u)) = Z1 at *
  generalize ((sp [59, 32] (sidesL z)).map fun u => PyData.str (mkS u)) = Z2 at *
  generalize (sp [59, 32] (sidesL z)).map rrD = Z3 at *
  generalize mkS (sides0 z) = T0 at *
  generalize mkS (sidesL z) = T1 at *
  generalize mkS (lTx l) = T3 at *
  generalize mkS z = T at *
  by_cases he : lTx l = z
  · rw [decide_eq_true he] at hne
    rw [if_pos he]
    simp [hi, s1, a0, a1, n0, s2, wipeOk, hl, hc, il, lt, hne]
  · rw [decide_eq_false he] at hne
    rw [if_neg he]
    simp [hi, s1, a0, a1, n0, s2, wipeOk, hl, hc, il, lt, hne]
end
end Sx

namespace Mx
/-! ### what is written, read again -/
theorem nv_num {n : Nat} (h : n ≤ 999) : nv (TL.numL n) = (n : Int) := by
  unfold nv
  have h1 : 1 ≤ (TL.numL n).length := by
    have := TL.numL_ne n
    cases hq : TL.numL n with
    | nil => exact absurd hq this
    | cons a b => simp
  have h2 : (TL.numL n).length ≤ 3 := TL.numL_len (by decide) (by omega)
  have h3 : (TL.numL n).all isDig = true := by
    rw [List.all_eq_true]
    intro c hc
    have := TL.numL_digits n c hc
    unfold isDig
    refine decide_eq_true ?_
    simp
    omega
  rw [if_pos ⟨h1, h2, h3⟩, TL.numL_val]
theorem sp_pair (p : Nat × Nat) : sp [58] (pTx p) = [TL.numL p.1, TL.numL p.2] := by
  have e : pTx p = TL.joinL [58] [TL.numL p.1, TL.numL p.2] := by unfold pTx; rfl
  rw [e]
  exact TL.spl_join (s := 58) (S := []) (by simp) fun q hq => by
    rcases List.mem_cons.mp hq with z | z
    · rw [z]; exact TL.numL_free (by omega)
    · rw [List.mem_singleton.mp z]; exact TL.numL_free (by omega)
theorem pTx_free {p : Nat × Nat} {s : Nat} (h : s < 48 ∨ 58 < s) : s ∉ pTx p := fun hm => by
  unfold pTx at hm
  rcases List.mem_append.mp hm with z | z
  · exact TL.numL_free (by omega) z
  · rcases List.mem_cons.mp z with z | z
    · omega
    · exact TL.numL_free (by omega) z
theorem sp_pairs {ps : List (Nat × Nat)} (h : ps ≠ []) : sp [32] (psTx ps) = ps.map pTx := by
  unfold psTx
  exact TL.spl_join (s := 32) (S := []) (fun z => h (List.map_eq_nil_iff.mp z)) fun q hq => by
    obtain ⟨p, _, rfl⟩ := List.mem_map.mp hq
    exact pTx_free (by omega)
end Mx
namespace Sx
open PySem PySem.Spec PyProof.Rows L2 Mx TL
theorem rpD_back {n m : Nat} {ps : List (Nat × Nat)} (k : POk n m ps) (hn : n ≤ 5) (hm : m ≤ 999) (h : ps ≠ []) : rpD (psTx ps) = prs ps := by
  unfold rpD
  rw [sp_pairs h, List.map_map]
  unfold prs
  congr 1
  refine List.map_congr_left fun p hp => ?_
  have hb := k.el p hp
  simp only [Function.comp]
  rw [sp_pair, List.map_cons, List.map_singleton, nv_num (by omega), nv_num (by omega)]
  rfl
end Sx

namespace Mx
theorem mem_joinL {s : List Nat} {c : Nat} : ∀ {ys : List (List Nat)}, c ∈ TL.joinL s ys → c ∈ s ∨ ∃ y ∈ ys, c ∈ y
  | [], h => by cases h
  | [y], h => .inr ⟨y, List.mem_cons_self, h⟩
  | y :: z :: r, h => by
    have h : c ∈ y ++ (s ++ TL.joinL s (z :: r)) := h
    rcases List.mem_append.mp h with q | q
    · exact .inr ⟨y, List.mem_cons_self, q⟩
    · rcases List.mem_append.mp q with q | q
      · exact .inl q
      · rcases mem_joinL q with q | ⟨w, hw, q⟩
        · exact .inl q
        · exact .inr ⟨w, List.mem_cons_of_mem _ hw, q⟩
theorem psTx_mem {ps : List (Nat × Nat)} {c : Nat} (h : c ∈ psTx ps) : c = 32 ∨ (48 ≤ c ∧ c ≤ 58) := by
  rcases mem_joinL h with q | ⟨y, hy, q⟩
  · exact .inl (List.mem_singleton.mp q)
  · obtain ⟨p, _, rfl⟩ := List.mem_map.mp hy
    refine .inr (Classical.byContradiction fun z => pTx_free (p := p) (s := c) (by omega) q)
theorem pre_up {p q : List Nat} (h : 117 ∉ p) (hq : q = [] ∨ q.head? = some 32) : ∀ i, i < p.length → TL.pre upTo' ((p ++ q).drop i) = false := fun i hi => by
  cases hp : TL.pre upTo' ((p ++ q).drop i) with
  | false => rfl
  | true =>
    exfalso
    unfold TL.pre at hp
    have hp : ((p ++ q).drop i).take 7 = upTo' := eq_of_beq hp
    have h1 : (((p ++ q).drop i).take 7)[1]? = some 117 := by rw [hp]; rfl
    rw [List.getElem?_take_of_lt (by decide), List.getElem?_drop] at h1
    by_cases hl : i + 1 < p.length
    · rw [List.getElem?_append_left hl] at h1
      exact h (List.mem_of_getElem? h1)
    · rw [List.getElem?_append_right (by omega), show i + 1 - p.length = 0 by omega] at h1
      rcases hq with z | z
      · rw [z] at h1; cases h1
      · rw [List.head?_eq_getElem?] at z
        rw [z] at h1; cases h1
/-- no colon ahead of a space -/
def NoCS (w : List Nat) : Prop := ∀ i, w[i]? = some 58 → ∃ d, w[i + 1]? = some d ∧ d ≠ 32
theorem NoCS.app {a b : List Nat} (ha : NoCS a) (hb : NoCS b) : NoCS (a ++ b) := fun i hi => by
  by_cases hl : i < a.length
  · rw [List.getElem?_append_left hl] at hi
    obtain ⟨d, h1, h2⟩ := ha i hi
    have : i + 1 < a.length := (List.getElem?_eq_some_iff.mp h1).1
    exact ⟨d, by rw [List.getElem?_append_left this]; exact h1, h2⟩
  · rw [List.getElem?_append_right (by omega)] at hi
    obtain ⟨d, h1, h2⟩ := hb _ hi
    exact ⟨d, by rw [List.getElem?_append_right (by omega), show i + 1 - a.length = i - a.length + 1 by omega]; exact h1, h2⟩
theorem NoCS.free {w : List Nat} (h : 58 ∉ w) : NoCS w := fun i hi => absurd (List.mem_of_getElem? hi) h
theorem NoCS.pair (p : Nat × Nat) : NoCS (pTx p) := by
  unfold pTx
  refine (NoCS.free (TL.numL_free (by omega))).app fun i hi => ?_
  cases i with
  | zero =>
    cases hq : TL.numL p.2 with
    | nil => exact absurd hq (TL.numL_ne _)
    | cons a b =>
      refine ⟨a, rfl, ?_⟩
      have := TL.numL_digits p.2 a (by rw [hq]; exact List.mem_cons_self)
      omega
  | succ i =>
    have hi : (TL.numL p.2)[i]? = some 58 := hi
    exact absurd (List.mem_of_getElem? hi) (TL.numL_free (by omega))
theorem NoCS.join {s : List Nat} (hs : NoCS s) : ∀ {ys : List (List Nat)}, (∀ y ∈ ys, NoCS y) → NoCS (TL.joinL s ys)
  | [], _ => fun i hi => by cases hi
  | [y], h => h y List.mem_cons_self
  | y :: z :: r, h => (h y List.mem_cons_self).app (hs.app (NoCS.join hs fun q hq => h q (List.mem_cons_of_mem _ hq)))
theorem NoCS.pairs (ps : List (Nat × Nat)) : NoCS (psTx ps) := NoCS.join (NoCS.free (by decide)) fun y hy => by
  obtain ⟨p, _, rfl⟩ := List.mem_map.mp hy
  exact NoCS.pair p
theorem NoCS.rung (r : Rung) : NoCS (rTx r) := by
  cases r with
  | fixed p => exact (NoCS.free (w := [102, 32]) (by decide)).app (NoCS.pairs p)
  | shares w c =>
    refine (NoCS.free (w := [115, 32]) (by decide)).app ((NoCS.pairs w).app ?_)
    split
    · exact fun i hi => by cases hi
    · exact (NoCS.free (w := upTo') (by decide)).app (NoCS.pairs c)
theorem NoCS.pre {w : List Nat} (h : NoCS w) : ∀ i, i < w.length → TL.pre [58, 32] (w.drop i) = false := fun i hi => by
  cases hp : TL.pre [58, 32] (w.drop i) with
  | false => rfl
  | true =>
    exfalso
    unfold TL.pre at hp
    have hp : (w.drop i).take 2 = [58, 32] := eq_of_beq hp
    have h0 : ((w.drop i).take 2)[0]? = some 58 := by rw [hp]; rfl
    have h1 : ((w.drop i).take 2)[1]? = some 32 := by rw [hp]; rfl
    rw [List.getElem?_take_of_lt (by decide), List.getElem?_drop] at h0 h1
    obtain ⟨d, h2, h3⟩ := h i h0
    rw [h1] at h2
    exact h3 (Option.some.inj h2).symm
theorem rTx_free {r : Rung} {c : Nat} (hc : c = 59) : c ∉ rTx r := fun hm => by
  have key : ∀ {ps : List (Nat × Nat)}, c ∈ psTx ps → False := fun h => by rcases psTx_mem h with z | z <;> omega
  cases r with
  | fixed p =>
    have hm : c ∈ [102, 32] ++ psTx p := hm
    rcases List.mem_append.mp hm with z | z
    · subst hc; exact absurd z (by decide)
    · exact key z
  | shares w cc =>
    have hm : c ∈ [115, 32] ++ (psTx w ++ if cc = [] then [] else upTo' ++ psTx cc) := hm
    rcases List.mem_append.mp hm with z | z
    · subst hc; exact absurd z (by decide)
    · rcases List.mem_append.mp z with z | z
      · exact key z
      · split at z
        · cases z
        · rcases List.mem_append.mp z with z | z
          · subst hc; exact absurd z (by decide)
          · exact key z
end Mx
namespace Sx
open PySem PySem.Spec PyProof.Rows L2 Mx TL
theorem rrD_back {n : Nat} {r : Rung} (k : r.Ok n) (hn : n ≤ 5) : rrD (rTx r) = rd r := by
  cases r with
  | fixed p =>
    unfold rrD
    rw [if_pos (show (rTx (.fixed p)).take 2 = [102, 32] from rfl)]
    have e : (rTx (.fixed p)).drop 2 = psTx p := rfl
    rw [e, rpD_back k.2 hn (by decide) k.1]
    rfl
  | shares w c =>
    have h117 : ∀ {ps : List (Nat × Nat)}, 117 ∉ psTx ps := fun hm => by rcases psTx_mem hm with z | z <;> omega
    unfold rrD
    rw [if_neg (show ¬ (rTx (.shares w c)).take 2 = [102, 32] from fun z => by cases z), if_pos (show (rTx (.shares w c)).take 2 = [115, 32] from rfl)]
    have e : (rTx (.shares w c)).drop 2 = psTx w ++ if c = [] then [] else upTo' ++ psTx c := rfl
    rw [e]
    by_cases hc : c = []
    · rw [if_pos hc, List.append_nil]
      have hs : sp upTo' (psTx w) = [psTx w] := TL.spl_last (acc := []) fun i hi => by
        have := pre_up (p := psTx w) (q := []) h117 (.inl rfl) i hi
        rw [List.append_nil] at this
        exact this
      rw [hs]
      simp only
      rw [rpD_back k.2.1 hn (by decide) k.1, hc]
      rfl
    · rw [if_neg hc]
      have hs : sp upTo' (psTx w ++ (upTo' ++ psTx c)) = [psTx w, psTx c] := by
        have h1 := TL.spl_part (S := upTo') (p := psTx w) (rest := psTx c) (acc := []) (by simp [upTo']) fun i hi => pre_up h117 (.inr rfl) i hi
        have h2 : TL.spl upTo' 0 [] (psTx c) = [psTx c] := TL.spl_last (acc := []) fun i hi => by
          have := pre_up (p := psTx c) (q := []) h117 (.inl rfl) i hi
          rw [List.append_nil] at this
          exact this
        show TL.spl upTo' 0 [] (psTx w ++ (upTo' ++ psTx c)) = _
        rw [h1, h2]; rfl
      rw [hs]
      simp only
      rw [rpD_back k.2.1 hn (by decide) k.1, rpD_back k.2.2.1 hn (by decide) hc]
      rfl
theorem foD_back {l : Lad} (k : l.Ok) : foD (lTx l) = ld l := by
  have n5 := k.n5
  have hne : l.rs.map rTx ≠ [] := fun z => k.r1 (List.map_eq_nil_iff.mp z)
  have hs : sp [58, 32] (lTx l) = [TL.numL l.n, joinL [59, 32] (l.rs.map rTx)] := by
    have h1 := TL.spl_part1 (s := 58) (S := [32]) (p := TL.numL l.n) (rest := joinL [59, 32] (l.rs.map rTx)) (acc := []) (TL.numL_free (by omega))
    have h2 : TL.spl [58, 32] 0 [] (joinL [59, 32] (l.rs.map rTx)) = [joinL [59, 32] (l.rs.map rTx)] := TL.spl_last (acc := []) (NoCS.pre (NoCS.join (NoCS.free (by decide)) fun y hy => by
      obtain ⟨r, _, rfl⟩ := List.mem_map.mp hy
      exact NoCS.rung r))
    show TL.spl [58, 32] 0 [] (TL.numL l.n ++ (58 :: [32] ++ joinL [59, 32] (l.rs.map rTx))) = _
    rw [h1, h2]; rfl
  have hr : sp [59, 32] (joinL [59, 32] (l.rs.map rTx)) = l.rs.map rTx := TL.spl_join (s := 59) (S := [32]) hne fun q hq => by
    obtain ⟨r, _, rfl⟩ := List.mem_map.mp hq
    exact rTx_free rfl
  unfold foD sides0 sidesL
  rw [hs]
  have e1 : ([TL.numL l.n, joinL [59, 32] (l.rs.map rTx)] : List (List Nat)).headD [] = TL.numL l.n := rfl
  have e2 : (([TL.numL l.n, joinL [59, 32] (l.rs.map rTx)] : List (List Nat)).getLast?).getD [] = joinL [59, 32] (l.rs.map rTx) := rfl
  rw [e1, e2, hr, List.map_map, nv_num (by omega)]
  show PyData.tuple [.int (l.n : Int), .tuple (l.rs.map (rrD ∘ rTx))] = PyData.tuple [.int (l.n : Int), .tuple (l.rs.map rd)]
  rw [List.map_congr_left (f := rrD ∘ rTx) (g := rd) fun r hr => rrD_back (k.ok r hr) n5]
theorem asc_line {l : Lad} : Asc8 (lTx l) := fun c hc => by
  have key : ∀ {ps : List (Nat × Nat)}, c ∈ psTx ps → c < 1000 := fun h => by rcases psTx_mem h with z | z <;> omega
  have num : ∀ {n : Nat}, c ∈ TL.numL n → c < 1000 := fun {n} h => by have := TL.numL_digits n c h; omega
  have con : ∀ {w : List Nat}, w.all (fun c => decide (c < 1000)) = true → c ∈ w → c < 1000 := fun h hm => by
    have := List.all_eq_true.mp h c hm
    exact of_decide_eq_true this
  have hc : c ∈ TL.numL l.n ++ ([58, 32] ++ joinL [59, 32] (l.rs.map rTx)) := hc
  rcases List.mem_append.mp hc with z | z
  · exact num z
  · rcases List.mem_append.mp z with z | z
    · exact con (by decide) z
    · rcases mem_joinL z with z | ⟨y, hy, z⟩
      · exact con (by decide) z
      · obtain ⟨r, _, rfl⟩ := List.mem_map.mp hy
        cases r with
        | fixed p =>
          have z : c ∈ [102, 32] ++ psTx p := z
          rcases List.mem_append.mp z with z | z
          · exact con (by decide) z
          · exact key z
        | shares w cc =>
          have z : c ∈ [115, 32] ++ (psTx w ++ if cc = [] then [] else upTo' ++ psTx cc) := z
          rcases List.mem_append.mp z with z | z
          · exact con (by decide) z
          · rcases List.mem_append.mp z with z | z
            · exact key z
            · split at z
              · cases z
              · rcases List.mem_append.mp z with z | z
                · exact con (by decide) z
                · exact key z
/-- the round trip -/
theorem parse_back {l : Lad} (k : l.Ok) : F_X_parse_ladder [.str (mkS (lTx l))] = .ok (ld l) := by
  have h := parse_true (z := lTx l) (Nat.le_trans (lTx_len k) (by decide)) asc_line k (foD_back k) asc_line
  rw [if_pos rfl] at h
  exact h
end Sx

namespace Sx
open PySem PySem.Spec PyProof.Rows L2 Mx TL
/-! ### whatever is read, is_ladder answers -/
abbrev tupI (y : List Int) : Dt := .tuple (y.map PyData.int)
def pairI (n m : Nat) : List Int → Bool
  | [a, b] => (decide (0 ≤ a) && decide (a ≤ (n : Int) - 1)) && (decide (1 ≤ b) && decide (b ≤ (m : Int)))
  | _ => false
theorem isi_tI {y : List Int} : isiD "tuple" (tupI y) = some (.bool true) := rfl
theorem len_tI {y : List Int} : lenD [tupI y] = some (.int (y.length : Int)) := by
  show some (PyData.int ((y.map PyData.int).length : Int)) = _
  rw [List.length_map]
theorem loopI {n m : Nat} {x y : Option SV} (ys : List (List Int)) (h : ys.all (pairI n m) = false) : fL (gN 4) lB_are_pairs_1 (ys.map tupI) [some (.d (.int n)), x, some (.d (.int m)), y, none, none] none = .rt (.d (.bool false)) none :=
  (fL_ret (W := none) (g := gN 4) (body := lB_are_pairs_1) tupI (pairI n m) (.d (.bool false))
    (fun ρ => ∃ a, ρ = [some (.d (.int n)), x, some (.d (.int m)), y, a, none]) ys [some (.d (.int n)), x, some (.d (.int m)), y, none, none] ⟨_, rfl⟩ (by
      rintro p hx ρ ⟨a, rfl⟩
      have hi := isi_tI (y := p)
      have hl := len_tI (y := p)
      refine ⟨[some (.d (.int n)), x, some (.d (.int m)), y, some (.d (tupI p)), none], by simp, fun hq => ⟨[some (.d (.int n)), x, some (.d (.int m)), y, some (.d (tupI p)), none], ?_, ⟨_, rfl⟩⟩, fun hq => ?_⟩
      · match p, hq, hi, hl with
        | [a, b], hq, hi, hl =>
          have hq : ((decide (0 ≤ a) && decide (a ≤ (n : Int) - 1)) && (decide (1 ≤ b) && decide (b ≤ (m : Int)))) = true := hq
          simp only [Bool.and_eq_true, decide_eq_true_eq] at hq
          have i0 : ixD (tupI [a, b]) (.int 0) = some (.int a) := rfl
          have i1 : ixD (tupI [a, b]) (.int 1) = some (.int b) := rfl
          have hl : lenD [tupI [a, b]] = some (.int 2) := hl
          generalize tupI [a, b] = T at *
          simp [lB_are_pairs_1, is_between_ok, hi, hl, i0, i1, hq.1.1, hq.1.2, hq.2.1, hq.2.2]
        | [], hq, _, _ => cases hq
        | [_], hq, _, _ => cases hq
        | _ :: _ :: _ :: _, hq, _, _ => cases hq
      · match p, hq, hi, hl with
        | [a, b], hq, hi, hl =>
          have hq : ((decide (0 ≤ a) && decide (a ≤ (n : Int) - 1)) && (decide (1 ≤ b) && decide (b ≤ (m : Int)))) = false := hq
          have i0 : ixD (tupI [a, b]) (.int 0) = some (.int a) := rfl
          have i1 : ixD (tupI [a, b]) (.int 1) = some (.int b) := rfl
          have hl : lenD [tupI [a, b]] = some (.int 2) := hl
          have b0 := is_between_ok (v := a) (lo := 0) (hi := (n : Int) - 1)
          have b1 := is_between_ok (v := b) (lo := 1) (hi := (m : Int))
          generalize (decide (0 ≤ a) && decide (a ≤ (n : Int) - 1)) = B0 at *
          generalize (decide (1 ≤ b) && decide (b ≤ (m : Int))) = B1 at *
          generalize tupI [a, b] = T at *
          cases B0 with
          | false => simp [lB_are_pairs_1, b0, hi, hl, i0]
          | true =>
            cases B1 with
            | false => simp [lB_are_pairs_1, b0, b1, hi, hl, i0, i1]
            | true => cases hq
        | [], _, hi, hl =>
          have hl : lenD [tupI []] = some (.int 0) := hl
          generalize tupI [] = T at *
          simp [lB_are_pairs_1, hi, hl]
        | [a], _, hi, hl =>
          have hl : lenD [tupI [a]] = some (.int 1) := hl
          generalize tupI [a] = T at *
          simp [lB_are_pairs_1, hi, hl]
        | a :: b :: c :: r, _, hi, hl =>
          generalize tupI (a :: b :: c :: r) = T at *
          simp [lB_are_pairs_1, hi, hl, show ¬ ((r.length : Int) + 1 + 1 + 1 = 2) by omega])).2 h
theorem are_badI {n m k : Nat} {ys : List (List Int)} (h : ys.all (pairI n m) = false) : F_are_pairs [.int n, .tuple (ys.map tupI), .int m, .int k] = .ok (.bool false) := by
  have hl := loopI (x := some (.d (.tuple (ys.map tupI)))) (y := some (.d (.int k))) ys h
  have h1 : isiD "tuple" (.tuple (ys.map tupI)) = some (.bool true) := rfl
  have h2 : lenD [.tuple (ys.map tupI)] = some (.int (ys.length : Int)) := by
    show some (PyData.int ((ys.map tupI).length : Int)) = _
    rw [List.length_map]
  unfold F_are_pairs
  simp only [B_are_pairs]
  generalize ys.map tupI = Y at *
  by_cases hk : (ys.length : Int) < (k : Int)
  · simp [h1, h2, hk]
  · simp [h1, h2, hk, hl]
/-- pairs of natural numbers, or refused -/
theorem decI : ∀ ys : List (List Int), (∃ ps : List (Nat × Nat), ys.map tupI = ps.map pr) ∨ ∀ n m, ys.all (pairI n m) = false
  | [] => .inl ⟨[], rfl⟩
  | y :: ys => by
    rcases decI ys with ⟨ps, e⟩ | h
    · match y with
      | [a, b] =>
        by_cases hc : 0 ≤ a ∧ 0 ≤ b
        · refine .inl ⟨(a.toNat, b.toNat) :: ps, ?_⟩
          rw [List.map_cons, List.map_cons, e]
          congr 1
          show PyData.tuple [.int a, .int b] = PyData.tuple [.int (a.toNat : Int), .int (b.toNat : Int)]
          rw [Int.toNat_of_nonneg hc.1, Int.toNat_of_nonneg hc.2]
        · refine .inr fun n m => ?_
          rw [List.all_cons]
          have : pairI n m [a, b] = false := by
            show ((decide (0 ≤ a) && decide (a ≤ (n : Int) - 1)) && (decide (1 ≤ b) && decide (b ≤ (m : Int)))) = false
            by_cases h1 : 0 ≤ a
            · have : ¬ 1 ≤ b := fun z => hc ⟨h1, by omega⟩
              simp [this]
            · simp [h1]
          rw [this, Bool.false_and]
      | [] => exact .inr fun n m => by rw [List.all_cons]; rfl
      | [_] => exact .inr fun n m => by rw [List.all_cons]; rfl
      | _ :: _ :: _ :: _ => exact .inr fun n m => by rw [List.all_cons]; rfl
    · exact .inr fun n m => by rw [List.all_cons, h, Bool.and_false]
theorem rp_dec {w : List Nat} : (∃ ps : List (Nat × Nat), rpD w = prs ps ∧ ps.length ≤ w.length + 1) ∨ ∀ n m k : Nat, F_are_pairs [.int n, rpD w, .int m, .int k] = .ok (.bool false) := by
  have e : rpD w = .tuple (((sp [32] w).map fun u => (sp [58] u).map nv).map tupI) := by
    unfold rpD
    rw [List.map_map]
    congr 1
    refine List.map_congr_left fun u _ => ?_
    simp only [Function.comp, tupI]
    rw [List.map_map]; rfl
  rcases decI ((sp [32] w).map fun u => (sp [58] u).map nv) with ⟨ps, h⟩ | h
  · refine .inl ⟨ps, by rw [e, h]; rfl, ?_⟩
    have := congrArg List.length h
    rw [List.length_map, List.length_map, List.length_map] at this
    have := sp_num (y := [32]) (w := w)
    omega
  · exact .inr fun n m k => by rw [e]; exact are_badI (h n m)
end Sx

namespace Sx
open PySem PySem.Spec PyProof.Rows L2 Mx TL
/-- a rung that is read: a rung's form, or refused -/
theorem rr_dec {w : List Nat} (hw : w.length ≤ 900) : (∃ r : Rung, rrD w = rd r ∧ r.A.length ≤ 1000 ∧ r.C.length ≤ 1000) ∨ ∀ n : Nat, F_is_rung [.int n, rrD w] = .ok (.bool false) := by
  have hnone : ∀ n : Nat, F_is_rung [.int n, .none] = .ok (.bool false) := fun n => by
    have h1 : isiD "tuple" .none = some (.bool false) := rfl
    unfold F_is_rung
    simp only [B_is_rung]
    simp [h1]
  have hsh : ∀ (n : Nat) (a b : Dt), (F_are_pairs [.int n, a, .int 20, .int 1] = .ok (.bool false) ∨ ((∃ x, F_are_pairs [.int n, a, .int 20, .int 1] = .ok (.bool x)) ∧ F_are_pairs [.int n, b, .int 999, .int 0] = .ok (.bool false))) → F_is_rung [.int n, .tuple [.str "shares", a, b]] = .ok (.bool false) := fun n a b h => by
    have h1 : isiD "tuple" (.tuple [.str "shares", a, b]) = some (.bool true) := rfl
    have h2 : isiD "str" (.str "shares") = some (.bool true) := rfl
    have n1 : neD (.str "shares") (.str "shares") = some (.bool false) := by kernel_rfl
    unfold F_is_rung
    simp only [B_is_rung]
    rcases h with h | ⟨⟨x, h⟩, h'⟩
    · simp [h1, h2, qsf, n1, h]
    · cases x with
      | false => simp [h1, h2, qsf, n1, h]
      | true => simp [h1, h2, qsf, n1, h, h']
  have hdl : (w.drop 2).length ≤ 900 := by rw [List.length_drop]; omega
  unfold rrD
  by_cases c1 : w.take 2 = [102, 32]
  · rw [if_pos c1]
    rcases rp_dec (w := w.drop 2) with ⟨ps, e, hl⟩ | h
    · exact .inl ⟨.fixed ps, by rw [e]; rfl, by show ps.length ≤ 1000; omega, by show ps.length ≤ 1000; omega⟩
    · refine .inr fun n => ?_
      have h := h n 999 1
      have h : F_are_pairs [.int n, rpD (w.drop 2), .int 999, .int 1] = .ok (.bool false) := h
      have h1 : isiD "tuple" (.tuple [.str "fixed", rpD (w.drop 2)]) = some (.bool true) := rfl
      have h2 : isiD "str" (.str "fixed") = some (.bool true) := rfl
      unfold F_is_rung
      simp only [B_is_rung]
      generalize rpD (w.drop 2) = R at *
      simp [h1, h2, qff, h]
  · rw [if_neg c1]
    by_cases c2 : w.take 2 = [115, 32]
    · rw [if_pos c2]
      have hmem : ∀ u ∈ sp upTo' (w.drop 2), u.length ≤ 900 := fun u hu => Nat.le_trans (sp_len hu) hdl
      match sp upTo' (w.drop 2), hmem with
      | [], _ => exact .inr hnone
      | [a], hm =>
        have ha := hm a List.mem_cons_self
        rcases rp_dec (w := a) with ⟨ps, e, hl⟩ | h
        · exact .inl ⟨.shares ps [], by simp only; rw [e]; rfl, by show ps.length ≤ 1000; omega, by show 0 ≤ 1000; omega⟩
        · exact .inr fun n => hsh n _ _ (.inl (h n 20 1))
      | [a, b], hm =>
        have ha := hm a List.mem_cons_self
        have hb := hm b (List.mem_cons_of_mem _ List.mem_cons_self)
        rcases rp_dec (w := a) with ⟨ps, e, hl⟩ | h
        · rcases rp_dec (w := b) with ⟨qs, e2, hl2⟩ | h2
          · exact .inl ⟨.shares ps qs, by simp only; rw [e, e2]; rfl, by show ps.length ≤ 1000; omega, by show qs.length ≤ 1000; omega⟩
          · refine .inr fun n => hsh n _ _ (.inr ⟨⟨!decide (ps.length < 1) && (ps.all (pairB n 20) && incB ps), ?_⟩, h2 n 999 0⟩)
            rw [e]
            exact are_pairs_ok (n := n) (m := 20) (k := 1) ps (by omega)
        · exact .inr fun n => hsh n _ _ (.inl (h n 20 1))
      | _ :: _ :: _ :: _, _ => exact .inr hnone
    · rw [if_neg c2]
      exact .inr hnone
theorem rrs_dec : ∀ ws : List (List Nat), (∀ w ∈ ws, w.length ≤ 900) → (∃ rs : List Rung, ws.map rrD = rs.map rd ∧ ∀ r ∈ rs, r.A.length ≤ 1000 ∧ r.C.length ≤ 1000) ∨ ∃ w ∈ ws, ∀ n : Nat, F_is_rung [.int n, rrD w] = .ok (.bool false)
  | [], _ => .inl ⟨[], rfl, fun r hr => by cases hr⟩
  | w :: ws, h => by
    rcases rr_dec (h w List.mem_cons_self) with ⟨r, e, hr⟩ | hb
    · rcases rrs_dec ws fun q hq => h q (List.mem_cons_of_mem _ hq) with ⟨rs, e2, h2⟩ | ⟨q, hq, h2⟩
      · refine .inl ⟨r :: rs, by rw [List.map_cons, List.map_cons, e, e2], fun q hq => ?_⟩
        rcases List.mem_cons.mp hq with z | z
        · rw [z]; exact hr
        · exact h2 q z
      · exact .inr ⟨q, List.mem_cons_of_mem _ hq, h2⟩
    · exact .inr ⟨w, List.mem_cons_self, hb⟩
theorem rung_any {w : List Nat} (hw : w.length ≤ 900) (n : Nat) : ∃ b, F_is_rung [.int n, rrD w] = .ok (.bool b) := by
  rcases rr_dec hw with ⟨r, e, hr⟩ | h
  · rw [e]; exact ⟨_, is_rung_ok hr⟩
  · exact ⟨false, h n⟩
/-- what is read: a ladder, or refused -/
theorem fo_dec {z : List Nat} (hz : z.length ≤ 900) : (∃ l : Lad, l.Ok ∧ foD z = ld l) ∨ F_is_ladder [foD z] = .ok (.bool false) := by
  have hsl : (sidesL z).length ≤ 900 := Nat.le_trans (sp_len sides_mem.2) hz
  have hmem : ∀ w ∈ sp [59, 32] (sidesL z), w.length ≤ 900 := fun w hw => Nat.le_trans (sp_len hw) hsl
  have hne := sp_ne (y := [59, 32]) (w := sidesL z)
  unfold foD
  generalize nv (sides0 z) = v
  generalize hS : sp [59, 32] (sidesL z) = S at *
  have h1 : ∀ D : List Dt, isiD "tuple" (.tuple D) = some (.bool true) := fun _ => rfl
  have b0 := is_between_ok (v := v) (lo := 1) (hi := 5)
  by_cases hv : 1 ≤ v ∧ v ≤ 5
  · obtain ⟨n, rfl⟩ : ∃ n : Nat, v = (n : Int) := ⟨v.toNat, by omega⟩
    by_cases hl : S.length ≤ 4
    · rcases rrs_dec S hmem with ⟨rs, e, hr⟩ | ⟨w, hw, hb⟩
      · have hlen : S.length = rs.length := by
          have := congrArg List.length e
          simpa using this
        have hrs : rs ≠ [] := fun q => by
          rw [q] at hlen
          exact hne (List.length_eq_zero_iff.mp hlen)
        obtain ⟨qs, r, rfl⟩ : ∃ qs r, rs = qs ++ [r] := ⟨_, _, (List.dropLast_concat_getLast hrs).symm⟩
        rw [e]
        have hql : qs.length ≤ 3 := by rw [List.length_append] at hlen; simp at hlen; omega
        have hld : PyData.tuple [.int (n : Int), .tuple ((qs ++ [r]).map rd)] = ld ⟨n, qs ++ [r]⟩ := rfl
        rw [hld]
        have hk := is_ladder_ok (n := n) (rs := qs) (r := r) (by omega) (by omega) hql hr
        cases hb : ((qs ++ [r]).all (rungB n) && r.endless) with
        | true => exact .inl ⟨_, (ladB_iff (by omega) (by omega) hql).mp hb, rfl⟩
        | false => rw [hb] at hk; exact .inr hk
      · refine .inr ?_
        obtain ⟨f, hf⟩ : ∃ f : List Nat → Bool, ∀ w ∈ S, F_is_rung [.int n, rrD w] = .ok (.bool (f w)) := by
          refine ⟨fun w => match F_is_rung [.int n, rrD w] with | .ok (.bool b) => b | _ => false, fun w hw => ?_⟩
          obtain ⟨b, hb⟩ := rung_any (hmem w hw) n
          simp only [hb]
        have hfw : f w = false := by
          have h2 := hf w hw
          rw [hb n] at h2
          injection h2 with h2
          injection h2 with h2
          exact h2.symm
        have hall : S.all f = false := by
          rw [List.all_eq_false]
          exact ⟨w, hw, by rw [hfw]; decide⟩
        have hc : cL (gN 3) bYes cE_is_ladder_1 [some (.d (.tuple [.int (n : Int), .tuple (S.map rrD)])), some (.d (.int n)), some (.d (.tuple (S.map rrD))), none] (S.map rrD) none = .ok (S.map (fun q => PyData.bool (f q)), none) := by
          refine cL_map rrD _ _ fun q hq => ⟨[some (.d (.tuple [.int (n : Int), .tuple (S.map rrD)])), some (.d (.int n)), some (.d (.tuple (S.map rrD))), some (.d (rrD q))], rfl, ?_⟩
          have h2 := hf q hq
          generalize S.map rrD = Y
          generalize rrD q = Q at *
          simp only [cE_is_ladder_1]
          simp [h2]
        have ha := allD_map f S
        rw [hall] at ha
        have hSl : 1 ≤ S.length := by
          cases S with
          | nil => exact absurd rfl hne
          | cons a b => simp
        have hlen : lenD [.tuple (S.map rrD)] = some (.int (S.length : Int)) := by
          show some (PyData.int ((S.map rrD).length : Int)) = _
          rw [List.length_map]
        have hyl : (S.map rrD).length ≤ 100000 := by rw [List.length_map]; omega
        have i1 := h1 (S.map rrD)
        unfold F_is_ladder
        simp only [B_is_ladder]
        generalize S.map rrD = Y at *
        generalize (S.map fun q => PyData.bool (f q)) = BL at *
        have i0 := h1 [.int (n : Int), .tuple Y]
        simp [i0, i1, is_between_ok, show (1 : Int) ≤ (n : Int) by omega, show (n : Int) ≤ 5 by omega, hlen, show (1 : Int) ≤ (S.length : Int) by omega, show (S.length : Int) ≤ 4 by omega, wipeOk, hyl, hc, ha]
    · refine .inr ?_
      have hlen : lenD [.tuple (S.map rrD)] = some (.int (S.length : Int)) := by
        show some (PyData.int ((S.map rrD).length : Int)) = _
        rw [List.length_map]
      have i1 := h1 (S.map rrD)
      unfold F_is_ladder
      simp only [B_is_ladder]
      generalize S.map rrD = Y at *
      have i0 := h1 [.int (n : Int), .tuple Y]
      simp [i0, i1, is_between_ok, show (1 : Int) ≤ (n : Int) by omega, show (n : Int) ≤ 5 by omega, hlen, show (1 : Int) ≤ (S.length : Int) by omega, show ¬ (S.length : Int) ≤ 4 by omega]
  · refine .inr ?_
    have hb : (decide (1 ≤ v) && decide (v ≤ 5)) = false := by
      by_cases q : 1 ≤ v
      · have : ¬ v ≤ 5 := fun z => hv ⟨q, z⟩
        simp [this]
      · simp [q]
    rw [hb] at b0
    unfold F_is_ladder
    simp only [B_is_ladder]
    generalize S.map rrD = Y at *
    have i0 := h1 [.int v, .tuple Y]
    simp [i0, b0]
/-- parse_ladder answers each text -/
theorem parse_any {z : List Nat} (hz : z.length ≤ 900) (ha : Asc8 z) : (∃ l : Lad, l.Ok ∧ lTx l = z ∧ F_X_parse_ladder [.str (mkS z)] = .ok (ld l)) ∨ F_X_parse_ladder [.str (mkS z)] = .exc "InvalidText" := by
  rcases fo_dec hz with ⟨l, k, e⟩ | h
  · have hp := parse_true hz ha k e asc_line
    by_cases q : lTx l = z
    · rw [if_pos q] at hp; exact .inl ⟨l, k, q, hp⟩
    · rw [if_neg q] at hp; exact .inr hp
  · exact .inr (parse_false hz ha h)
end Sx

namespace Mx
/-- it ends, and not with a space -/
def NE (w : List Nat) : Prop := ∃ c, w.getLast? = some c ∧ c ≠ 32
theorem NE.app {a b : List Nat} (h : NE b) : NE (a ++ b) := by
  obtain ⟨c, h1, h2⟩ := h
  exact ⟨c, by rw [List.getLast?_append, h1]; rfl, h2⟩
theorem NE.num (n : Nat) : NE (TL.numL n) := by
  have hne := TL.numL_ne n
  refine ⟨(TL.numL n).getLast hne, List.getLast?_eq_some_getLast hne, ?_⟩
  have := TL.numL_digits n _ (List.getLast_mem hne)
  omega
theorem NE.pair (p : Nat × Nat) : NE (pTx p) := by
  have e : pTx p = (TL.numL p.1 ++ [58]) ++ TL.numL p.2 := by unfold pTx; simp
  rw [e]
  exact (NE.num p.2).app
theorem NE.join {s : List Nat} : ∀ {ys : List (List Nat)}, ys ≠ [] → (∀ y ∈ ys, NE y) → NE (TL.joinL s ys)
  | [], h, _ => absurd rfl h
  | [y], _, h => h y List.mem_cons_self
  | y :: z :: r, _, h => (NE.join (s := s) (ys := z :: r) (by simp) fun q hq => h q (List.mem_cons_of_mem _ hq)).app.app
theorem NE.pairs {ps : List (Nat × Nat)} (h : ps ≠ []) : NE (psTx ps) := NE.join (fun z => h (List.map_eq_nil_iff.mp z)) fun y hy => by
  obtain ⟨p, _, rfl⟩ := List.mem_map.mp hy
  exact NE.pair p
theorem NE.rung {n : Nat} {r : Rung} (k : r.Ok n) : NE (rTx r) := by
  cases r with
  | fixed p => exact (NE.pairs k.1).app (a := [102, 32])
  | shares w c =>
    have e : rTx (.shares w c) = [115, 32] ++ (psTx w ++ if c = [] then [] else upTo' ++ psTx c) := rfl
    rw [e]
    refine NE.app ?_
    by_cases hc : c = []
    · rw [if_pos hc, List.append_nil]; exact NE.pairs k.1
    · rw [if_neg hc]; exact ((NE.pairs hc).app).app
theorem NE.line {l : Lad} (k : l.Ok) : NE (lTx l) := by
  have e : lTx l = (TL.numL l.n ++ [58, 32]) ++ TL.joinL [59, 32] (l.rs.map rTx) := by unfold lTx; simp
  rw [e]
  refine NE.app (NE.join (fun z => k.r1 (List.map_eq_nil_iff.mp z)) fun y hy => ?_)
  obtain ⟨r, hr, rfl⟩ := List.mem_map.mp hy
  exact NE.rung (k.ok r hr)
theorem no_end {l : Lad} (k : l.Ok) (w : List Nat) : lTx l ≠ w ++ [32] := fun e => by
  obtain ⟨c, h1, h2⟩ := NE.line k
  rw [e, List.getLast?_append] at h1
  have h1 : some 32 = some c := h1
  exact h2 (Option.some.inj h1).symm
theorem no_start {l : Lad} (w : List Nat) : lTx l ≠ 32 :: w := fun e => by
  unfold lTx at e
  cases hq : TL.numL l.n with
  | nil => exact TL.numL_ne _ hq
  | cons a b =>
    rw [hq, List.cons_append] at e
    have e1 := (List.cons.inj e).1
    have := TL.numL_digits l.n a (by rw [hq]; exact List.mem_cons_self)
    omega
end Mx

namespace Sx
open PySem PySem.Spec PyProof.Rows L2
def top (i : Nat) : Stmt := PySem.Challenge.pw_payladders_k61_whole_texts.main.body.getD i (.Pass ⟨0, 0, 0, 0⟩)

def B__law_call : SS :=
    (sRet (eCallX 1 F_X_parse_ladder (aCons (eVar 1) aNil)))
def F__law_call := runP 2 B__law_call

def B__law_outcome : SS :=
    (sSeq (sAsg 2 (eC .none))
    (sSeq (sAsg 3 (eC .none))
    (sSeq (sTryC 3 2 4 2 F__law_call (aCons (eVar 0) (aCons (eVar 1) aNil)))
    (sSeq (sIf (bOf (eIsN 2)) (sRet (eTup (aCons (eC (.str "returned")) (aCons (eVar 3) aNil)))) sPass)
    (sRet (eTup (aCons (eC (.str "raised")) (aCons (eCallN F__law_name 2) aNil))))))))
def F__law_outcome := runP 5 B__law_outcome

def lB_law_1 : SS :=
    (sSeq (sAsg 7 (eCallT 1 F__law_draw (eVar 0) 1 (aCons (eBin addD (eCB lenD (aCons (eVar 3) aNil)) (eC (.int 1))) aNil)))
    (sSeq (sAsg 8 (eCallT 1 F__law_pick (eVar 0) 1 (aCons (eBin addD (eFrz (lCB listTL (aCons (eC (.str "0123459:; fs")) aNil))) (eFrz (lLst (aCons (eC (.str " 0:1")) (aCons (eC (.str "; f 0:1")) (aCons (eC (.str " up to")) (aCons (eC (.str "")) aNil))))))) aNil)))
    (sSeq (sAsg 9 (eBin addD (eBin addD (eSlice (eVar 3) oNone (oSome (eVar 7))) (eVar 8)) (eSlice (eVar 3) (oSome (eBin addD (eVar 7) (eCallT 1 F__law_draw (eVar 0) 1 (aCons (eC (.int 2)) aNil)))) oNone)))
    (sSeq (sAsg 10 (eCall 2 F__law_outcome (aCons (eC (.int 0)) (aCons (eVar 9) aNil))))
    (sIf (bOf (eBin eqD (eBin ixD (eVar 10) (eC (.int 0))) (eC (.str "returned")))) (sIf (bOr (bOf (eBin isNotD (eCall 1 F_is_ladder (aCons (eBin ixD (eVar 10) (eC (.int 1))) aNil)) (eC (.bool true)))) (bOf (eBin neD (eCall 1 F__law_line (aCons (eBin ixD (eVar 10) (eC (.int 1))) aNil)) (eVar 9)))) (sRet (eC (.bool false))) sPass) (sIf (bOr (bOf (eBin neD (eVar 10) (eCall 1 F__law_raises (aCons (eC (.str "text")) aNil)))) (bOf (eBin eqD (eVar 9) (eVar 3)))) (sRet (eC (.bool false))) sPass))))))
def cC_law_2 : SB :=
    (bOf (eBin neD (eCall 2 F__law_outcome (aCons (eC (.int 0)) (aCons (eVar 11) aNil))) (eCall 1 F__law_raises (aCons (eC (.str "text")) aNil))))
def cE_law_2 : SE :=
    (eVar 11)
def B_law : SS :=
    (sSeq (sTown 1 (lCall 1 F__law_town (aCons (eVar 0) aNil)))
    (sSeq (sAsg 2 (eCallT 1 F__law_ladder (eVar 0) 1 (aCons (eC (.int 5)) aNil)))
    (sSeq (sAsg 3 (eCall 1 F__law_line (aCons (eVar 2) aNil)))
    (sSeq (sIf (bOr (bOf (eBin neD (eCall 1 F_format_ladder (aCons (eVar 2) aNil)) (eVar 3))) (bOf (eBin neD (eCall 2 F__law_outcome (aCons (eC (.int 0)) (aCons (eVar 3) aNil))) (eTup (aCons (eC (.str "returned")) (aCons (eVar 2) aNil)))))) (sRet (eC (.bool false))) sPass)
    (sSeq (sFor (iRng (aCons (eC (.int 10)) aNil)) (gN 4) lB_law_1)
    (sSeq (sAsg 5 (eFrz (lLst (aCons (eC .none) (aCons (eC (.int 5)) (aCons (eC (.str "")) (aCons (eC (.str " ")) (aCons (eC (.str "1")) (aCons (eC (.str "1:")) (aCons (eC (.str "1: ")) (aCons (eC (.str "1: s")) (aCons (eC (.str "1: s 0")) (aCons (eC (.str "1: s 0:0")) (aCons (eC (.str "1: s 1:1")) (aCons (eC (.str "1: f 0:1")) (aCons (eC (.str "1: s 0:01")) aNil))))))))))))))))
    (sSeq (sAsg 5 (eBin addD (eVar 5) (eFrz (lLst (aCons (eC (.str "1: s 0:1 ")) (aCons (eC (.str "0: s 0:1")) (aCons (eC (.str "6: s 0:1")) (aCons (eC (.str "01: s 0:1")) (aCons (eC (.str "1: s 0:1 up to 0:5")) (aCons (eC (.str "1: s 0:1 up to")) aNil))))))))))
    (sSeq (sAsg 5 (eBin addD (eVar 5) (eFrz (lLst (aCons (eC (.str "1: s 0:1; f 0:1")) (aCons (eC (.str "1:s 0:1")) (aCons (eC (.str "2: s 1:1 0:1")) (aCons (eC (.str "1: s 0:1,")) (aCons (eC (.str "1: S 0:1")) (aCons (eVar 2) (aCons (eFrz (lLst (aCons (eVar 3) aNil))) aNil)))))))))))
    (sSeq (sAsg 5 (eBin addD (eVar 5) (eFrz (lLst (aCons (eBin addD (eVar 3) (eC (.str " "))) (aCons (eBin addD (eC (.str " ")) (eVar 3)) (aCons (eC (.bool true)) (aCons (eC (.str "1: s 0:1;s 0:1")) aNil))))))))
    (sSeq (sIf (bOf (eBin neD (eFrz (lComp (iSeq (eVar 5)) (gN 11) cC_law_2 cE_law_2 [11])) (eFrz (lLst aNil)))) (sRet (eC (.bool false))) sPass)
    (sSeq (sAsg 6 (eTup (aCons (eC (.int 2)) (aCons (eTup (aCons (eTup (aCons (eC (.str "fixed")) (aCons (eTup (aCons (eTup (aCons (eC (.int 0)) (aCons (eC (.int 100)) aNil))) aNil)) aNil))) (aCons (eTup (aCons (eC (.str "shares")) (aCons (eTup (aCons (eTup (aCons (eC (.int 0)) (aCons (eC (.int 1)) aNil))) (aCons (eTup (aCons (eC (.int 1)) (aCons (eC (.int 3)) aNil))) aNil))) (aCons (eTup (aCons (eTup (aCons (eC (.int 0)) (aCons (eC (.int 50)) aNil))) aNil)) aNil)))) aNil))) aNil))))
    (sRet (eBin eqD (eCall 2 F__law_outcome (aCons (eC (.int 0)) (aCons (eC (.str "2: f 0:100; s 0:1 1:3 up to 0:50")) aNil))) (eTup (aCons (eC (.str "returned")) (aCons (eVar 6) aNil))))))))))))))))
def F_law := runP 12 B_law

theorem sc_is_between : FnScope ["value", "low", "high"] ["value", "low", "high"] (defScope (top 16)) := ⟨rfl, rfl, rfl, by decide +kernel, rfl, by decide +kernel, by decide +kernel⟩
theorem cal_is_between {P : Program} {w : World} {K : PySem.W.Frag} {mg : Str → Option Value} {base : Heap} (g : Glob K mg) (F : ∃ f fd, FnP K "is_between" (top 16) f fd ∧ mg "is_between" = some (.ref f))  : CalP P w K mg base "is_between" 1 3 ["value", "low", "high"] F_is_between := by
  obtain ⟨f, fd, F, hm⟩ := F
  refine ⟨f, fd, ?_, hm, F.kp, F.bindsN fun _ _ _ _ _ _ us hl => match us, hl with | [_, _, _], _ => rfl⟩
  have sc := sc_is_between
  refine fn_P (toFun F) sc rfl fun cdv A outer s H E hr => ?_
  have hu := units64 hr
  have hu5 := units65 hr
  have hu1 := units1 hr
  exact (s_one (s_ret (d_and (d_isi rfl g.isinstance rfl g.int_ (by decide +kernel) (d_r (d_var (pv 0)))) (d_and (d_not (d_isi rfl g.isinstance rfl g.bool_ (by decide +kernel) (d_r (d_var (pv 0))))) (d_one (d_chain op_leD op_leD (d_r (d_var (pv 1))) (d_r (d_var (pv 0))) (d_r (d_var (pv 2)))))))))

theorem sc_are_pairs : FnScope ["holders", "value", "most", "least", "pair", "k"] ["holders", "value", "most", "least"] (defScope (top 17)) := ⟨rfl, rfl, rfl, by decide +kernel, rfl, by decide +kernel, by decide +kernel⟩
theorem cal_are_pairs {P : Program} {w : World} {K : PySem.W.Frag} {mg : Str → Option Value} {base : Heap} (g : Glob K mg) (F : ∃ f fd, FnP K "are_pairs" (top 17) f fd ∧ mg "are_pairs" = some (.ref f)) (c_is_between : CalP P w K mg base "is_between" 1 3 ["value", "low", "high"] F_is_between) : CalP P w K mg base "are_pairs" 2 4 ["holders", "value", "most", "least"] F_are_pairs := by
  obtain ⟨f, fd, F, hm⟩ := F
  obtain ⟨f_is_between, fd_is_between, ok_is_between, mg_is_between, kp_is_between, bd_is_between⟩ := c_is_between
  refine ⟨f, fd, ?_, hm, F.kp, F.bindsN fun _ _ _ _ _ _ us hl => match us, hl with | [_, _, _, _], _ => rfl⟩
  have sc := sc_are_pairs
  refine fn_P (toFun F) sc rfl fun cdv A outer s H E hr => ?_
  have hu := units64 hr
  have hu5 := units65 hr
  have hu1 := units1 hr
  exact (s_cons (s_if (PW.pt (c_or (c_not (c_val (d_isi rfl g.isinstance rfl g.tuple_ (by decide +kernel) (d_r (d_var (pv 1)))))) (c_or1 (c_cmp op_ltD (d_r (d_callB cb_len rfl g.len_ (by decide +kernel) (r_cons (d_r (d_var (pv 1))) r_nil))) (d_r (d_var (pv 3))) (nomark _))))) (s_one (s_ret d_bl)) s_nil)
    (s_cons (s_for PassesOwn.never rfl (i_seq (d_var (pv 1))) (g_name (pg_name (i := 4) sc.nd rfl (Or.inl rfl))) (s_cons (s_if (PW.pt (c_or (c_not (c_val (d_isi rfl g.isinstance rfl g.tuple_ (by decide +kernel) (d_r (d_var (pv 4)))))) (c_or (c_cmp (op_neQ hu) (d_r (d_callB cb_len rfl g.len_ (by decide +kernel) (r_cons (d_r (d_var (pv 4))) r_nil))) (d_r d_int) (nomark _)) (c_or1 (c_not (c_val (d_call ok_is_between (hr.mono (by decide : 1 ≤ 1)) rfl mg_is_between kp_is_between bd_is_between (a_cons (d_ix ix_D (d_r (d_var (pv 4))) (d_r d_int) (fun _ _ => rfl)) (a_cons d_int (a_cons (d_bin op_subD (d_r (d_var (pv 0))) (d_r d_int)) a_nil)))))))))) (s_one (s_ret d_bl)) s_nil)
    (s_one (s_if (c_not (c_val (d_call ok_is_between (hr.mono (by decide : 1 ≤ 1)) rfl mg_is_between kp_is_between bd_is_between (a_cons (d_ix ix_D (d_r (d_var (pv 4))) (d_r d_int) (fun _ _ => rfl)) (a_cons d_int (a_cons (d_var (pv 2)) a_nil)))))) (s_one (s_ret d_bl)) s_nil))))
    (s_one (s_ret (d_callB (cb_all rfl) rfl g.all_ (by decide +kernel) (r_cons (d_r (d_frz (l_comp (own := [("k", 5)]) rfl sc.nd (i_rng rfl g.range_ (a_cons (d_bin op_subD (d_r (d_callB cb_len rfl g.len_ (by decide +kernel) (r_cons (d_r (d_var (pv 1))) r_nil))) (d_r d_int)) a_nil)) (blkOk_by (own := [("k", 5)]) (N := ["holders", "value", "most", "least", "pair", "k"]) (sc := defScope (top 17)) (by decide +kernel)) (fun _ _ _ _ _ => (g_name (pg_name (i := 5) sc.nd rfl (Or.inl rfl)))) (fun _ _ _ _ _ => t_yes) (fun _ _ _ _ _ => (d_cmp op_ltD (d_r (d_ix ix_D (d_r (d_ix ix_D (d_r (d_var (pv 1))) (d_r (d_var (pv 5))) (fun _ _ => rfl))) (d_r d_int) (fun _ _ => rfl))) (d_r (d_ix ix_D (d_r (d_ix ix_D (d_r (d_var (pv 1))) (d_r (d_bin op_addD (d_r (d_var (pv 5))) (d_r d_int))) (fun _ _ => rfl))) (d_r d_int) (fun _ _ => rfl))) (nomark _))) (by decide)))) r_nil))))))

theorem sc_is_rung : FnScope ["holders", "value", "some", "holder", "weight", "cap"] ["holders", "value"] (defScope (top 18)) := ⟨rfl, rfl, rfl, by decide +kernel, rfl, by decide +kernel, by decide +kernel⟩
theorem cal_is_rung {P : Program} {w : World} {K : PySem.W.Frag} {mg : Str → Option Value} {base : Heap} (g : Glob K mg) (F : ∃ f fd, FnP K "is_rung" (top 18) f fd ∧ mg "is_rung" = some (.ref f)) (c_are_pairs : CalP P w K mg base "are_pairs" 2 4 ["holders", "value", "most", "least"] F_are_pairs) : CalP P w K mg base "is_rung" 3 2 ["holders", "value"] F_is_rung := by
  obtain ⟨f, fd, F, hm⟩ := F
  obtain ⟨f_are_pairs, fd_are_pairs, ok_are_pairs, mg_are_pairs, kp_are_pairs, bd_are_pairs⟩ := c_are_pairs
  refine ⟨f, fd, ?_, hm, F.kp, F.bindsN fun _ _ _ _ _ _ us hl => match us, hl with | [_, _], _ => rfl⟩
  have sc := sc_is_rung
  refine fn_P (toFun F) sc rfl fun cdv A outer s H E hr => ?_
  have hu := units64 hr
  have hu5 := units65 hr
  have hu1 := units1 hr
  exact (s_cons (s_if (PW.pt (c_or (c_not (c_val (d_isi rfl g.isinstance rfl g.tuple_ (by decide +kernel) (d_r (d_var (pv 1)))))) (c_or (c_not (c_chain op_leD op_leD (d_r d_int) (d_r (d_callB cb_len rfl g.len_ (by decide +kernel) (r_cons (d_r (d_var (pv 1))) r_nil))) (d_r d_int))) (c_or1 (c_not (c_val (d_isi rfl g.isinstance rfl g.str_ (by decide +kernel) (d_r (d_ix ix_D (d_r (d_var (pv 1))) (d_r d_int) (fun _ _ => rfl)))))))))) (s_one (s_ret d_bl)) s_nil)
    (s_cons (s_if (c_cmp (op_eqQ hu) (d_r (d_ix ix_D (d_r (d_var (pv 1))) (d_r d_int) (fun _ _ => rfl))) (d_r d_str) (nomark _)) (s_one (s_ret (d_and (d_cmp (op_eqQ hu) (d_r (d_callB cb_len rfl g.len_ (by decide +kernel) (r_cons (d_r (d_var (pv 1))) r_nil))) (d_r d_int) (nomark _)) (d_one (d_call ok_are_pairs (hr.mono (by decide : 2 ≤ 2)) rfl mg_are_pairs kp_are_pairs bd_are_pairs (a_cons (d_var (pv 0)) (a_cons (d_ix ix_D (d_r (d_var (pv 1))) (d_r d_int) (fun _ _ => rfl)) (a_cons d_int (a_cons d_int a_nil))))))))) s_nil)
    (s_cons (s_if (PW.pt (c_or (c_cmp (op_neQ hu) (d_r (d_ix ix_D (d_r (d_var (pv 1))) (d_r d_int) (fun _ _ => rfl))) (d_r d_str) (nomark _)) (c_or1 (c_cmp (op_neQ hu) (d_r (d_callB cb_len rfl g.len_ (by decide +kernel) (r_cons (d_r (d_var (pv 1))) r_nil))) (d_r d_int) (nomark _))))) (s_one (s_ret d_bl)) s_nil)
    (s_cons (s_if (PW.pt (c_or (c_not (c_val (d_call ok_are_pairs (hr.mono (by decide : 2 ≤ 2)) rfl mg_are_pairs kp_are_pairs bd_are_pairs (a_cons (d_var (pv 0)) (a_cons (d_ix ix_D (d_r (d_var (pv 1))) (d_r d_int) (fun _ _ => rfl)) (a_cons d_int (a_cons d_int a_nil))))))) (c_or1 (c_not (c_val (d_call ok_are_pairs (hr.mono (by decide : 2 ≤ 2)) rfl mg_are_pairs kp_are_pairs bd_are_pairs (a_cons (d_var (pv 0)) (a_cons (d_ix ix_D (d_r (d_var (pv 1))) (d_r d_int) (fun _ _ => rfl)) (a_cons d_int (a_cons d_int a_nil)))))))))) (s_one (s_ret d_bl)) s_nil)
    (s_cons (s_asg (ps_set (i := 2) sc.nd rfl (Or.inr rfl) (d_frz (l_comp (own := [("holder", 3), ("weight", 4)]) rfl sc.nd (i_seq (d_ix ix_D (d_r (d_var (pv 1))) (d_r d_int) (fun _ _ => rfl))) (blkOk_by (own := [("holder", 3), ("weight", 4)]) (N := ["holders", "value", "some", "holder", "weight", "cap"]) (sc := defScope (top 18)) (by decide +kernel)) (fun _ _ _ _ _ => (g_tup rfl (gs_cons (g_name (pg_name (i := 3) sc.nd rfl (Or.inl rfl))) (gs_cons (g_name (pg_name (i := 4) sc.nd rfl (Or.inl rfl))) gs_nil)))) (fun _ _ _ _ _ => t_yes) (fun _ _ _ _ _ => (d_var (pv 3))) (by decide)))))
    (s_one (s_ret (d_callB (cb_all rfl) rfl g.all_ (by decide +kernel) (r_cons (d_r (d_frz (l_comp (own := [("holder", 3), ("cap", 5)]) rfl sc.nd (i_seq (d_ix ix_D (d_r (d_var (pv 1))) (d_r d_int) (fun _ _ => rfl))) (blkOk_by (own := [("holder", 3), ("cap", 5)]) (N := ["holders", "value", "some", "holder", "weight", "cap"]) (sc := defScope (top 18)) (by decide +kernel)) (fun _ _ _ _ _ => (g_tup rfl (gs_cons (g_name (pg_name (i := 3) sc.nd rfl (Or.inl rfl))) (gs_cons (g_name (pg_name (i := 5) sc.nd rfl (Or.inl rfl))) gs_nil)))) (fun _ _ _ _ _ => t_yes) (fun _ _ _ _ _ => (d_cmp (op_inQ hu5) (d_r (d_var (pv 3))) (d_r (d_var (pv 2))) (by rfl))) (by decide)))) r_nil)))))))))

theorem sc_is_endless : FnScope ["rung"] ["rung"] (defScope (top 19)) := ⟨rfl, rfl, rfl, by decide +kernel, rfl, by decide +kernel, by decide +kernel⟩
theorem cal_is_endless {P : Program} {w : World} {K : PySem.W.Frag} {mg : Str → Option Value} {base : Heap} (g : Glob K mg) (F : ∃ f fd, FnP K "is_endless" (top 19) f fd ∧ mg "is_endless" = some (.ref f))  : CalP P w K mg base "is_endless" 1 1 ["rung"] F_is_endless := by
  obtain ⟨f, fd, F, hm⟩ := F
  refine ⟨f, fd, ?_, hm, F.kp, F.bindsN fun _ _ _ _ _ _ us hl => match us, hl with | [_], _ => rfl⟩
  have sc := sc_is_endless
  refine fn_P (toFun F) sc rfl fun cdv A outer s H E hr => ?_
  have hu := units64 hr
  have hu5 := units65 hr
  have hu1 := units1 hr
  exact (s_one (s_ret (d_and (d_cmp (op_eqQ hu) (d_r (d_ix ix_D (d_r (d_var (pv 0))) (d_r d_int) (fun _ _ => rfl))) (d_r d_str) (nomark _)) (d_one (d_cmp op_ltD (d_r (d_callB cb_len rfl g.len_ (by decide +kernel) (r_cons (d_r (d_ix ix_D (d_r (d_var (pv 0))) (d_r d_int) (fun _ _ => rfl))) r_nil))) (d_r (d_callB cb_len rfl g.len_ (by decide +kernel) (r_cons (d_r (d_ix ix_D (d_r (d_var (pv 0))) (d_r d_int) (fun _ _ => rfl))) r_nil))) (nomark _))))))

theorem sc_is_ladder : FnScope ["value", "holders", "rungs", "rung"] ["value"] (defScope (top 20)) := ⟨rfl, rfl, rfl, by decide +kernel, rfl, by decide +kernel, by decide +kernel⟩
theorem cal_is_ladder {P : Program} {w : World} {K : PySem.W.Frag} {mg : Str → Option Value} {base : Heap} (g : Glob K mg) (F : ∃ f fd, FnP K "is_ladder" (top 20) f fd ∧ mg "is_ladder" = some (.ref f)) (c_is_endless : CalP P w K mg base "is_endless" 1 1 ["rung"] F_is_endless) (c_is_between : CalP P w K mg base "is_between" 1 3 ["value", "low", "high"] F_is_between) (c_is_rung : CalP P w K mg base "is_rung" 3 2 ["holders", "value"] F_is_rung) : CalP P w K mg base "is_ladder" 4 1 ["value"] F_is_ladder := by
  obtain ⟨f, fd, F, hm⟩ := F
  obtain ⟨f_is_endless, fd_is_endless, ok_is_endless, mg_is_endless, kp_is_endless, bd_is_endless⟩ := c_is_endless
  obtain ⟨f_is_between, fd_is_between, ok_is_between, mg_is_between, kp_is_between, bd_is_between⟩ := c_is_between
  obtain ⟨f_is_rung, fd_is_rung, ok_is_rung, mg_is_rung, kp_is_rung, bd_is_rung⟩ := c_is_rung
  refine ⟨f, fd, ?_, hm, F.kp, F.bindsN fun _ _ _ _ _ _ us hl => match us, hl with | [_], _ => rfl⟩
  have sc := sc_is_ladder
  refine fn_P (toFun F) sc rfl fun cdv A outer s H E hr => ?_
  have hu := units64 hr
  have hu5 := units65 hr
  have hu1 := units1 hr
  exact (s_cons (s_if (PW.pt (c_or (c_not (c_val (d_isi rfl g.isinstance rfl g.tuple_ (by decide +kernel) (d_r (d_var (pv 0)))))) (c_or (c_cmp (op_neQ hu) (d_r (d_callB cb_len rfl g.len_ (by decide +kernel) (r_cons (d_r (d_var (pv 0))) r_nil))) (d_r d_int) (nomark _)) (c_or1 (c_not (c_val (d_call ok_is_between (hr.mono (by decide : 1 ≤ 3)) rfl mg_is_between kp_is_between bd_is_between (a_cons (d_ix ix_D (d_r (d_var (pv 0))) (d_r d_int) (fun _ _ => rfl)) (a_cons d_int (a_cons d_int a_nil)))))))))) (s_one (s_ret d_bl)) s_nil)
    (s_cons (s_asgG (ps_asg (d_var (pv 0)) (g_tup rfl (gs_cons (g_name (pg_name (i := 1) sc.nd rfl (Or.inr rfl))) (gs_cons (g_name (pg_name (i := 2) sc.nd rfl (Or.inl rfl))) gs_nil)))))
    (s_cons (s_if (PW.pt (c_or (c_not (c_val (d_isi rfl g.isinstance rfl g.tuple_ (by decide +kernel) (d_r (d_var (pv 2)))))) (c_or1 (c_not (c_chain op_leD op_leD (d_r d_int) (d_r (d_callB cb_len rfl g.len_ (by decide +kernel) (r_cons (d_r (d_var (pv 2))) r_nil))) (d_r d_int)))))) (s_one (s_ret d_bl)) s_nil)
    (s_one (s_ret (d_and (d_callB (cb_all rfl) rfl g.all_ (by decide +kernel) (r_cons (d_r (d_frz (l_comp (own := [("rung", 3)]) rfl sc.nd (i_seq (d_var (pv 2))) (blkOk_by (own := [("rung", 3)]) (N := ["value", "holders", "rungs", "rung"]) (sc := defScope (top 20)) (by decide +kernel)) (fun _ _ _ _ _ => (g_name (pg_name (i := 3) sc.nd rfl (Or.inl rfl)))) (fun _ _ _ _ _ => t_yes) (fun _ _ _ _ _ => (d_call ok_is_rung (hr.mono (by decide : 3 ≤ 3)) rfl mg_is_rung kp_is_rung bd_is_rung (a_cons (d_var (pv 1)) (a_cons (d_var (pv 3)) a_nil)))) (by decide)))) r_nil)) (d_one (d_call ok_is_endless (hr.mono (by decide : 1 ≤ 3)) rfl mg_is_endless kp_is_endless bd_is_endless (a_cons (d_ix ix_D (d_r (d_var (pv 2))) (d_r (d_un un_negD (d_r d_int))) (fun _ _ => rfl)) a_nil)))))))))

theorem sc_check_ladder : FnScope ["value"] ["value"] (defScope (top 21)) := ⟨rfl, rfl, rfl, by decide +kernel, rfl, by decide +kernel, by decide +kernel⟩
theorem cal_check_ladder {P : Program} {w : World} {K : PySem.W.Frag} {mg : Str → Option Value} {base : Heap} (g : Glob K mg) (F : ∃ f fd, FnP K "check_ladder" (top 21) f fd ∧ mg "check_ladder" = some (.ref f)) (c_is_ladder : CalP P w K mg base "is_ladder" 4 1 ["value"] F_is_ladder) : CalP P w K mg base "check_ladder" 5 1 ["value"] F_check_ladder := by
  obtain ⟨f, fd, F, hm⟩ := F
  obtain ⟨f_is_ladder, fd_is_ladder, ok_is_ladder, mg_is_ladder, kp_is_ladder, bd_is_ladder⟩ := c_is_ladder
  refine ⟨f, fd, ?_, hm, F.kp, F.bindsN fun _ _ _ _ _ _ us hl => match us, hl with | [_], _ => rfl⟩
  have sc := sc_check_ladder
  refine fn_P (toFun F) sc rfl fun cdv A outer s H E hr => ?_
  have hu := units64 hr
  have hu5 := units65 hr
  have hu1 := units1 hr
  exact (s_one (s_if (c_not (c_val (d_call ok_is_ladder (hr.mono (by decide : 4 ≤ 4)) rfl mg_is_ladder kp_is_ladder bd_is_ladder (a_cons (d_var (pv 0)) a_nil)))) (s_one s_never) s_nil))

theorem sc_pairs_text : FnScope ["pairs", "holder", "one"] ["pairs"] (defScope (top 23)) := ⟨rfl, rfl, rfl, by decide +kernel, rfl, by decide +kernel, by decide +kernel⟩
theorem cal_pairs_text {P : Program} {w : World} {K : PySem.W.Frag} {mg : Str → Option Value} {base : Heap} (g : Glob K mg) (F : ∃ f fd, FnP K "pairs_text" (top 23) f fd ∧ mg "pairs_text" = some (.ref f))  : CalP P w K mg base "pairs_text" 1 1 ["pairs"] F_pairs_text := by
  obtain ⟨f, fd, F, hm⟩ := F
  refine ⟨f, fd, ?_, hm, F.kp, F.bindsN fun _ _ _ _ _ _ us hl => match us, hl with | [_], _ => rfl⟩
  have sc := sc_pairs_text
  refine fn_P (toFun F) sc rfl fun cdv A outer s H E hr => ?_
  have hu := units64 hr
  have hu5 := units65 hr
  have hu1 := units1 hr
  exact (s_one (s_ret (d_join d_str (d_frz (l_comp (own := [("holder", 1), ("one", 2)]) rfl sc.nd (i_seq (d_var (pv 0))) (blkOk_by (own := [("holder", 1), ("one", 2)]) (N := ["pairs", "holder", "one"]) (sc := defScope (top 23)) (by decide +kernel)) (fun _ _ _ _ _ => (g_tup rfl (gs_cons (g_name (pg_name (i := 1) sc.nd rfl (Or.inl rfl))) (gs_cons (g_name (pg_name (i := 2) sc.nd rfl (Or.inl rfl))) gs_nil)))) (fun _ _ _ _ _ => t_yes) (fun _ _ _ _ _ => (d_fst (pj_fmt (d_var (pv 1)) (pj_con (pj_fmt (d_var (pv 2)) pj_nil))))) (by decide))))))

theorem sc_rung_text : FnScope ["rung", "found"] ["rung"] (defScope (top 24)) := ⟨rfl, rfl, rfl, by decide +kernel, rfl, by decide +kernel, by decide +kernel⟩
theorem cal_rung_text {P : Program} {w : World} {K : PySem.W.Frag} {mg : Str → Option Value} {base : Heap} (g : Glob K mg) (F : ∃ f fd, FnP K "rung_text" (top 24) f fd ∧ mg "rung_text" = some (.ref f)) (c_pairs_text : CalP P w K mg base "pairs_text" 1 1 ["pairs"] F_pairs_text) : CalP P w K mg base "rung_text" 2 1 ["rung"] F_rung_text := by
  obtain ⟨f, fd, F, hm⟩ := F
  obtain ⟨f_pairs_text, fd_pairs_text, ok_pairs_text, mg_pairs_text, kp_pairs_text, bd_pairs_text⟩ := c_pairs_text
  refine ⟨f, fd, ?_, hm, F.kp, F.bindsN fun _ _ _ _ _ _ us hl => match us, hl with | [_], _ => rfl⟩
  have sc := sc_rung_text
  refine fn_P (toFun F) sc rfl fun cdv A outer s H E hr => ?_
  have hu := units64 hr
  have hu5 := units65 hr
  have hu1 := units1 hr
  exact (s_cons (s_if (c_cmp (op_eqQ hu) (d_r (d_ix ix_D (d_r (d_var (pv 0))) (d_r d_int) (fun _ _ => rfl))) (d_r d_str) (nomark _)) (s_one (s_ret (d_bin op_addD (d_r d_str) (d_r (d_call ok_pairs_text (hr.mono (by decide : 1 ≤ 1)) rfl mg_pairs_text kp_pairs_text bd_pairs_text (a_cons (d_ix ix_D (d_r (d_var (pv 0))) (d_r d_int) (fun _ _ => rfl)) a_nil)))))) s_nil)
    (s_cons (s_asg (ps_set (i := 1) sc.nd rfl (Or.inl rfl) (d_bin op_addD (d_r d_str) (d_r (d_call ok_pairs_text (hr.mono (by decide : 1 ≤ 1)) rfl mg_pairs_text kp_pairs_text bd_pairs_text (a_cons (d_ix ix_D (d_r (d_var (pv 0))) (d_r d_int) (fun _ _ => rfl)) a_nil))))))
    (s_one (s_ret (d_if (c_cmp (op_neQ hu) (d_r (d_ix ix_D (d_r (d_var (pv 0))) (d_r d_int) (fun _ _ => rfl))) (d_r (d_tup a_nil)) (nomark _)) (d_bin op_addD (d_r (d_bin op_addD (d_r (d_var (pv 1))) (d_r d_str))) (d_r (d_call ok_pairs_text (hr.mono (by decide : 1 ≤ 1)) rfl mg_pairs_text kp_pairs_text bd_pairs_text (a_cons (d_ix ix_D (d_r (d_var (pv 0))) (d_r d_int) (fun _ _ => rfl)) a_nil)))) (d_var (pv 1)))))))

theorem sc_ladder_text : FnScope ["ladder", "rung"] ["ladder"] (defScope (top 25)) := ⟨rfl, rfl, rfl, by decide +kernel, rfl, by decide +kernel, by decide +kernel⟩
theorem cal_ladder_text {P : Program} {w : World} {K : PySem.W.Frag} {mg : Str → Option Value} {base : Heap} (g : Glob K mg) (F : ∃ f fd, FnP K "ladder_text" (top 25) f fd ∧ mg "ladder_text" = some (.ref f)) (c_rung_text : CalP P w K mg base "rung_text" 2 1 ["rung"] F_rung_text) : CalP P w K mg base "ladder_text" 3 1 ["ladder"] F_ladder_text := by
  obtain ⟨f, fd, F, hm⟩ := F
  obtain ⟨f_rung_text, fd_rung_text, ok_rung_text, mg_rung_text, kp_rung_text, bd_rung_text⟩ := c_rung_text
  refine ⟨f, fd, ?_, hm, F.kp, F.bindsN fun _ _ _ _ _ _ us hl => match us, hl with | [_], _ => rfl⟩
  have sc := sc_ladder_text
  refine fn_P (toFun F) sc rfl fun cdv A outer s H E hr => ?_
  have hu := units64 hr
  have hu5 := units65 hr
  have hu1 := units1 hr
  exact (s_one (s_ret (d_bin op_addD (d_r (d_fst (pj_fmt (d_ix ix_D (d_r (d_var (pv 0))) (d_r d_int) (fun _ _ => rfl)) (pj_con pj_nil)))) (d_r (d_join d_str (d_frz (l_comp (own := [("rung", 1)]) rfl sc.nd (i_seq (d_ix ix_D (d_r (d_var (pv 0))) (d_r d_int) (fun _ _ => rfl))) (blkOk_by (own := [("rung", 1)]) (N := ["ladder", "rung"]) (sc := defScope (top 25)) (by decide +kernel)) (fun _ _ _ _ _ => (g_name (pg_name (i := 1) sc.nd rfl (Or.inl rfl)))) (fun _ _ _ _ _ => t_yes) (fun _ _ _ _ _ => (d_call ok_rung_text (hr.mono (by decide : 2 ≤ 2)) rfl mg_rung_text kp_rung_text bd_rung_text (a_cons (d_var (pv 1)) a_nil))) (by decide))))))))

theorem sc_format_ladder : FnScope ["ladder"] ["ladder"] (defScope (top 26)) := ⟨rfl, rfl, rfl, by decide +kernel, rfl, by decide +kernel, by decide +kernel⟩
theorem cal_format_ladder {P : Program} {w : World} {K : PySem.W.Frag} {mg : Str → Option Value} {base : Heap} (g : Glob K mg) (F : ∃ f fd, FnP K "format_ladder" (top 26) f fd ∧ mg "format_ladder" = some (.ref f)) (c_check_ladder : CalP P w K mg base "check_ladder" 5 1 ["value"] F_check_ladder) (c_ladder_text : CalP P w K mg base "ladder_text" 3 1 ["ladder"] F_ladder_text) : CalP P w K mg base "format_ladder" 6 1 ["ladder"] F_format_ladder := by
  obtain ⟨f, fd, F, hm⟩ := F
  obtain ⟨f_check_ladder, fd_check_ladder, ok_check_ladder, mg_check_ladder, kp_check_ladder, bd_check_ladder⟩ := c_check_ladder
  obtain ⟨f_ladder_text, fd_ladder_text, ok_ladder_text, mg_ladder_text, kp_ladder_text, bd_ladder_text⟩ := c_ladder_text
  refine ⟨f, fd, ?_, hm, F.kp, F.bindsN fun _ _ _ _ _ _ us hl => match us, hl with | [_], _ => rfl⟩
  have sc := sc_format_ladder
  refine fn_P (toFun F) sc rfl fun cdv A outer s H E hr => ?_
  have hu := units64 hr
  have hu5 := units65 hr
  have hu1 := units1 hr
  exact (s_cons (s_expr (d_call ok_check_ladder (hr.mono (by decide : 5 ≤ 5)) rfl mg_check_ladder kp_check_ladder bd_check_ladder (a_cons (d_var (pv 0)) a_nil)))
    (s_one (s_ret (d_call ok_ladder_text (hr.mono (by decide : 3 ≤ 5)) rfl mg_ladder_text kp_ladder_text bd_ladder_text (a_cons (d_var (pv 0)) a_nil)))))

theorem sc_number_of : FnScope ["word", "sign"] ["word"] (defScope (top 27)) := ⟨rfl, rfl, rfl, by decide +kernel, rfl, by decide +kernel, by decide +kernel⟩
theorem cal_number_of {P : Program} {w : World} {K : PySem.W.Frag} {mg : Str → Option Value} {base : Heap} (g : Glob K mg) (F : ∃ f fd, FnP K "number_of" (top 27) f fd ∧ mg "number_of" = some (.ref f))  : CalP P w K mg base "number_of" 1 1 ["word"] F_number_of := by
  obtain ⟨f, fd, F, hm⟩ := F
  refine ⟨f, fd, ?_, hm, F.kp, F.bindsN fun _ _ _ _ _ _ us hl => match us, hl with | [_], _ => rfl⟩
  have sc := sc_number_of
  refine fn_P (toFun F) sc rfl fun cdv A outer s H E hr => ?_
  have hu := units64 hr
  have hu5 := units65 hr
  have hu1 := units1 hr
  exact (s_one (s_ret (d_if (PW.pt (c_and (c_chain op_leD op_leD (d_r d_int) (d_r (d_callB cb_len rfl g.len_ (by decide +kernel) (r_cons (d_r (d_var (pv 0))) r_nil))) (d_r d_int)) (c_and1 (c_val (d_callB (cb_all rfl) rfl g.all_ (by decide +kernel) (r_cons (d_r (d_frz (l_comp (own := [("sign", 1)]) rfl sc.nd (i_chr (d_var (pv 0))) (blkOk_by (own := [("sign", 1)]) (N := ["word", "sign"]) (sc := defScope (top 27)) (by decide +kernel)) (fun _ _ _ _ _ => (g_name (pg_name (i := 1) sc.nd rfl (Or.inl rfl)))) (fun _ _ _ _ _ => t_yes) (fun _ _ _ _ _ => (d_cmp op_inTD (d_r (d_var (pv 1))) (d_r d_str) (by rfl))) (by decide)))) r_nil)))))) (d_callTy ct_intT rfl g.int_ (by decide +kernel) (r_cons (d_r (d_var (pv 0))) r_nil)) (d_un un_negD (d_r d_int)))))

theorem sc_read_pairs : FnScope ["text", "word", "part"] ["text"] (defScope (top 28)) := ⟨rfl, rfl, rfl, by decide +kernel, rfl, by decide +kernel, by decide +kernel⟩
theorem cal_read_pairs {P : Program} {w : World} {K : PySem.W.Frag} {mg : Str → Option Value} {base : Heap} (g : Glob K mg) (F : ∃ f fd, FnP K "read_pairs" (top 28) f fd ∧ mg "read_pairs" = some (.ref f)) (c_number_of : CalP P w K mg base "number_of" 1 1 ["word"] F_number_of) : CalP P w K mg base "read_pairs" 2 1 ["text"] F_read_pairs := by
  obtain ⟨f, fd, F, hm⟩ := F
  obtain ⟨f_number_of, fd_number_of, ok_number_of, mg_number_of, kp_number_of, bd_number_of⟩ := c_number_of
  refine ⟨f, fd, ?_, hm, F.kp, F.bindsN fun _ _ _ _ _ _ us hl => match us, hl with | [_], _ => rfl⟩
  have sc := sc_read_pairs
  refine fn_P (toFun F) sc rfl fun cdv A outer s H E hr => ?_
  have hu := units64 hr
  have hu5 := units65 hr
  have hu1 := units1 hr
  exact (s_one (s_ret (d_callTy ct_tuple rfl g.tuple_ (by decide +kernel) (r_cons (d_r (d_frz (l_comp (own := [("word", 1)]) rfl sc.nd (i_seq (d_frz (l_split (d_var (pv 0)) d_str))) (blkOk_by (own := [("word", 1)]) (N := ["text", "word", "part"]) (sc := defScope (top 28)) (by decide +kernel)) (fun _ _ _ _ _ => (g_name (pg_name (i := 1) sc.nd rfl (Or.inl rfl)))) (fun _ _ _ _ _ => t_yes) (fun _ _ _ _ _ => (d_callTy ct_tuple rfl g.tuple_ (by decide +kernel) (r_cons (d_r (d_frz (l_comp (own := [("part", 2)]) rfl sc.nd (i_seq (d_frz (l_split (d_var (pv 1)) d_str))) (blkOk_by (own := [("part", 2)]) (N := ["text", "word", "part"]) (sc := compSc (top 28)) (by decide +kernel)) (fun _ _ _ _ _ => (g_name (pg_name (i := 2) sc.nd rfl (Or.inl rfl)))) (fun _ _ _ _ _ => t_yes) (fun _ _ _ _ _ => (d_call ok_number_of (hr.mono (by decide : 1 ≤ 1)) rfl mg_number_of kp_number_of bd_number_of (a_cons (d_var (pv 2)) a_nil))) (by decide)))) r_nil))) (by decide)))) r_nil))))

theorem sc_read_rung : FnScope ["text", "parts"] ["text"] (defScope (top 29)) := ⟨rfl, rfl, rfl, by decide +kernel, rfl, by decide +kernel, by decide +kernel⟩
theorem cal_read_rung {P : Program} {w : World} {K : PySem.W.Frag} {mg : Str → Option Value} {base : Heap} (g : Glob K mg) (F : ∃ f fd, FnP K "read_rung" (top 29) f fd ∧ mg "read_rung" = some (.ref f)) (c_read_pairs : CalP P w K mg base "read_pairs" 2 1 ["text"] F_read_pairs) : CalP P w K mg base "read_rung" 3 1 ["text"] F_read_rung := by
  obtain ⟨f, fd, F, hm⟩ := F
  obtain ⟨f_read_pairs, fd_read_pairs, ok_read_pairs, mg_read_pairs, kp_read_pairs, bd_read_pairs⟩ := c_read_pairs
  refine ⟨f, fd, ?_, hm, F.kp, F.bindsN fun _ _ _ _ _ _ us hl => match us, hl with | [_], _ => rfl⟩
  have sc := sc_read_rung
  refine fn_P (toFun F) sc rfl fun cdv A outer s H E hr => ?_
  have hu := units64 hr
  have hu5 := units65 hr
  have hu1 := units1 hr
  exact (s_cons (s_if (c_cmp (op_eqQ hu) (d_r (d_slice (d_r (d_var (pv 0))) o_none (o_some d_int))) (d_r d_str) (nomark _)) (s_one (s_ret (d_tup (a_cons d_str (a_cons (d_call ok_read_pairs (hr.mono (by decide : 2 ≤ 2)) rfl mg_read_pairs kp_read_pairs bd_read_pairs (a_cons (d_slice (d_r (d_var (pv 0))) (o_some d_int) o_none) a_nil)) a_nil))))) s_nil)
    (s_cons (s_asg (ps_set (i := 1) sc.nd rfl (Or.inl rfl) (d_frz (l_split (d_slice (d_r (d_var (pv 0))) (o_some d_int) o_none) d_str))))
    (s_cons (s_if (PW.pt (c_or (c_cmp (op_neQ hu) (d_r (d_slice (d_r (d_var (pv 0))) o_none (o_some d_int))) (d_r d_str) (nomark _)) (c_or1 (c_cmp op_gtD (d_r (d_callB cb_len rfl g.len_ (by decide +kernel) (r_cons (d_r (d_var (pv 1))) r_nil))) (d_r d_int) (nomark _))))) (s_one (s_ret d_non)) s_nil)
    (s_one (s_ret (d_tup (a_cons d_str (a_cons (d_call ok_read_pairs (hr.mono (by decide : 2 ≤ 2)) rfl mg_read_pairs kp_read_pairs bd_read_pairs (a_cons (d_ix ix_D (d_r (d_var (pv 1))) (d_r d_int) (fun _ _ => rfl)) a_nil)) (a_cons (d_if (c_cmp (op_eqQ hu) (d_r (d_callB cb_len rfl g.len_ (by decide +kernel) (r_cons (d_r (d_var (pv 1))) r_nil))) (d_r d_int) (nomark _)) (d_call ok_read_pairs (hr.mono (by decide : 2 ≤ 2)) rfl mg_read_pairs kp_read_pairs bd_read_pairs (a_cons (d_ix ix_D (d_r (d_var (pv 1))) (d_r d_int) (fun _ _ => rfl)) a_nil)) (d_tup a_nil)) a_nil)))))))))

theorem sc_parse_ladder : FnScope ["text", "sides", "found", "part"] ["text"] (defScope (top 30)) := ⟨rfl, rfl, rfl, by decide +kernel, rfl, by decide +kernel, by decide +kernel⟩
theorem cal_parse_ladder {P : Program} {w : World} {K : PySem.W.Frag} {mg : Str → Option Value} {base : Heap} (g : Glob K mg) (F : ∃ f fd, FnP K "parse_ladder" (top 30) f fd ∧ mg "parse_ladder" = some (.ref f)) (c_number_of : CalP P w K mg base "number_of" 1 1 ["word"] F_number_of) (c_is_ladder : CalP P w K mg base "is_ladder" 4 1 ["value"] F_is_ladder) (c_ladder_text : CalP P w K mg base "ladder_text" 3 1 ["ladder"] F_ladder_text) (c_read_rung : CalP P w K mg base "read_rung" 3 1 ["text"] F_read_rung) : CalP P w K mg base "parse_ladder" 5 1 ["text"] F_parse_ladder := by
  obtain ⟨f, fd, F, hm⟩ := F
  obtain ⟨f_number_of, fd_number_of, ok_number_of, mg_number_of, kp_number_of, bd_number_of⟩ := c_number_of
  obtain ⟨f_is_ladder, fd_is_ladder, ok_is_ladder, mg_is_ladder, kp_is_ladder, bd_is_ladder⟩ := c_is_ladder
  obtain ⟨f_ladder_text, fd_ladder_text, ok_ladder_text, mg_ladder_text, kp_ladder_text, bd_ladder_text⟩ := c_ladder_text
  obtain ⟨f_read_rung, fd_read_rung, ok_read_rung, mg_read_rung, kp_read_rung, bd_read_rung⟩ := c_read_rung
  refine ⟨f, fd, ?_, hm, F.kp, F.bindsN fun _ _ _ _ _ _ us hl => match us, hl with | [_], _ => rfl⟩
  have sc := sc_parse_ladder
  refine fn_P (toFun F) sc rfl fun cdv A outer s H E hr => ?_
  have hu := units64 hr
  have hu5 := units65 hr
  have hu1 := units1 hr
  exact (s_cons (s_if (c_not (c_val (d_isi rfl g.isinstance rfl g.str_ (by decide +kernel) (d_r (d_var (pv 0)))))) (s_one s_never) s_nil)
    (s_cons (s_asg (ps_set (i := 1) sc.nd rfl (Or.inl rfl) (d_frz (l_split (d_var (pv 0)) d_str))))
    (s_cons (s_asg (ps_set (i := 2) sc.nd rfl (Or.inl rfl) (d_tup (a_cons (d_call ok_number_of (hr.mono (by decide : 1 ≤ 4)) rfl mg_number_of kp_number_of bd_number_of (a_cons (d_ix ix_D (d_r (d_var (pv 1))) (d_r d_int) (fun _ _ => rfl)) a_nil)) (a_cons (d_callTy ct_tuple rfl g.tuple_ (by decide +kernel) (r_cons (d_r (d_frz (l_comp (own := [("part", 3)]) rfl sc.nd (i_seq (d_frz (l_split (d_ix ix_D (d_r (d_var (pv 1))) (d_r (d_un un_negD (d_r d_int))) (fun _ _ => rfl)) d_str))) (blkOk_by (own := [("part", 3)]) (N := ["text", "sides", "found", "part"]) (sc := defScope (top 30)) (by decide +kernel)) (fun _ _ _ _ _ => (g_name (pg_name (i := 3) sc.nd rfl (Or.inl rfl)))) (fun _ _ _ _ _ => t_yes) (fun _ _ _ _ _ => (d_call ok_read_rung (hr.mono (by decide : 3 ≤ 4)) rfl mg_read_rung kp_read_rung bd_read_rung (a_cons (d_var (pv 3)) a_nil))) (by decide)))) r_nil)) a_nil)))))
    (s_cons (s_if (PW.pt (c_or (c_not (c_val (d_call ok_is_ladder (hr.mono (by decide : 4 ≤ 4)) rfl mg_is_ladder kp_is_ladder bd_is_ladder (a_cons (d_var (pv 2)) a_nil)))) (c_or1 (c_cmp (op_neQ hu) (d_r (d_call ok_ladder_text (hr.mono (by decide : 3 ≤ 4)) rfl mg_ladder_text kp_ladder_text bd_ladder_text (a_cons (d_var (pv 2)) a_nil))) (d_r (d_var (pv 0))) (nomark _))))) (s_one s_never) s_nil)
    (s_one (s_ret (d_var (pv 2))))))))

theorem sc__law_town : FnScope ["script"] ["script"] (defScope (top 32)) := ⟨rfl, rfl, rfl, by decide +kernel, rfl, by decide +kernel, by decide +kernel⟩
theorem cal__law_town {P : Program} {w : World} {K : PySem.W.Frag} {mg : Str → Option Value} {base : Heap} (g : Glob K mg) (F : ∃ f fd, FnP K "_law_town" (top 32) f fd ∧ mg "_law_town" = some (.ref f))  : CalL P w K mg base "_law_town" 1 1 ["script"] F__law_town := by
  obtain ⟨f, fd, F, hm⟩ := F
  refine ⟨f, fd, ?_, hm, F.kp, F.bindsN fun _ _ _ _ _ _ us hl => match us, hl with | [_], _ => rfl⟩
  have sc := sc__law_town
  refine fn_L (toFun F) sc rfl fun cdv A outer s H E hr => ?_
  have hu := units64 hr
  have hu5 := units65 hr
  have hu1 := units1 hr
  exact (s_one (s_retL (l_bin op_addL (d_r (d_frz (l_lst (a_cons d_int a_nil)))) (d_r (d_frz (l_callTy ct_list rfl g.list_ (by decide +kernel) (r_cons (d_r (d_var (pv 0))) r_nil)))))))

theorem sc__law_draw : FnScope ["script", "town", "limit", "at", "left", "number"] ["script", "town", "limit"] (defScope (top 33)) := ⟨rfl, rfl, rfl, by decide +kernel, rfl, by decide +kernel, by decide +kernel⟩
theorem cal__law_draw {P : Program} {w : World} {K : PySem.W.Frag} {mg : Str → Option Value} {base : Heap} (g : Glob K mg) (F : ∃ f fd, FnP K "_law_draw" (top 33) f fd ∧ mg "_law_draw" = some (.ref f))  : CalT P w K mg base "_law_draw" 1 1 ["script", "town", "limit"] F__law_draw := by
  obtain ⟨f, fd, F, hm⟩ := F
  refine ⟨f, fd, ?_, hm, F.kp, F.bindsN fun _ _ _ _ _ _ us hl => match us, hl with | [_, _, _], _ => rfl⟩
  have sc := sc__law_draw
  refine fn_T (toFun F) sc rfl fun cdv A outer s H E hr => ?_
  have hu := units64 hr
  have hu5 := units65 hr
  have hu1 := units1 hr
  exact (s_cons (s_setT (ps_asg (d_bin op_addD (d_r (d_ixT (pv 1) d_int (fun _ _ => rfl))) (d_r d_int)) (pg_sub (pv 1) d_int set_list)))
    (s_cons (s_if (c_cmp (op_eqQ hu) (d_r (d_var (pv 0))) (d_r (d_frz (l_lst a_nil))) (nomark _)) (s_one (s_ret (d_bin op_modD (d_r (d_bin op_fdivD (d_r (d_bin op_mulD (d_r (d_bin op_mulD (d_r (d_ixT (pv 1) d_int (fun _ _ => rfl))) (d_r (d_ixT (pv 1) d_int (fun _ _ => rfl))))) (d_r d_int))) (d_r d_int))) (d_r (d_var (pv 2)))))) s_nil)
    (s_cons (s_asg (ps_set (i := 3) sc.nd rfl (Or.inl rfl) (d_bin op_modD (d_r (d_ixT (pv 1) d_int (fun _ _ => rfl))) (d_r (d_callB cb_len rfl g.len_ (by decide +kernel) (r_cons (d_r (d_var (pv 0))) r_nil))))))
    (s_cons (s_asg (ps_set (i := 4) sc.nd rfl (Or.inl rfl) (d_ixT (pv 1) (d_bin op_addD (d_r d_int) (d_r (d_var (pv 3)))) (fun _ _ => rfl))))
    (s_cons (s_if (PW.pt (c_and (c_cmp op_geD (d_r (d_ix ix_D (d_r (d_var (pv 0))) (d_r (d_var (pv 3))) (fun _ _ => rfl))) (d_r (d_bin op_powD (d_r d_int) (d_r d_int))) (nomark _)) (c_and1 (c_cmp op_gtD (d_r (d_var (pv 4))) (d_r d_int) (nomark _))))) (s_cons (s_setT (ps_asg (d_bin op_fdivD (d_r (d_var (pv 4))) (d_r (d_var (pv 2)))) (pg_sub (pv 1) (d_bin op_addD (d_r d_int) (d_r (d_var (pv 3)))) set_list)))
    (s_one (s_ret (d_bin op_modD (d_r (d_var (pv 4))) (d_r (d_var (pv 2))))))) s_nil)
    (s_cons (s_asg (ps_set (i := 5) sc.nd rfl (Or.inl rfl) (d_bin op_modD (d_r (d_bin op_addD (d_r (d_ix ix_D (d_r (d_var (pv 0))) (d_r (d_var (pv 3))) (fun _ _ => rfl))) (d_r (d_bin op_mulD (d_r d_int) (d_r (d_ixT (pv 1) d_int (fun _ _ => rfl))))))) (d_r d_int))))
    (s_cons (s_asg (ps_set (i := 5) sc.nd rfl (Or.inl rfl) (d_bin op_modD (d_r (d_bin op_powD (d_r (d_var (pv 5))) (d_r d_int))) (d_r d_int))))
    (s_one (s_ret (d_bin op_modD (d_r (d_bin op_fdivD (d_r (d_bin op_modD (d_r (d_bin op_addD (d_r (d_bin op_mulD (d_r (d_bin op_fdivD (d_r (d_var (pv 5))) (d_r d_int))) (d_r d_int))) (d_r (d_var (pv 5))))) (d_r d_int))) (d_r d_int))) (d_r (d_var (pv 2)))))))))))))

theorem sc__law_pick : FnScope ["script", "town", "choices"] ["script", "town", "choices"] (defScope (top 34)) := ⟨rfl, rfl, rfl, by decide +kernel, rfl, by decide +kernel, by decide +kernel⟩
theorem cal__law_pick {P : Program} {w : World} {K : PySem.W.Frag} {mg : Str → Option Value} {base : Heap} (g : Glob K mg) (F : ∃ f fd, FnP K "_law_pick" (top 34) f fd ∧ mg "_law_pick" = some (.ref f)) (c__law_draw : CalT P w K mg base "_law_draw" 1 1 ["script", "town", "limit"] F__law_draw) : CalT P w K mg base "_law_pick" 2 1 ["script", "town", "choices"] F__law_pick := by
  obtain ⟨f, fd, F, hm⟩ := F
  obtain ⟨f__law_draw, fd__law_draw, ok__law_draw, mg__law_draw, kp__law_draw, bd__law_draw⟩ := c__law_draw
  refine ⟨f, fd, ?_, hm, F.kp, F.bindsN fun _ _ _ _ _ _ us hl => match us, hl with | [_, _, _], _ => rfl⟩
  have sc := sc__law_pick
  refine fn_T (toFun F) sc rfl fun cdv A outer s H E hr => ?_
  have hu := units64 hr
  have hu5 := units65 hr
  have hu1 := units1 hr
  exact (s_one (s_ret (d_ix ix_D (d_r (d_var (pv 2))) (d_r (d_callT ok__law_draw (hr.mono (by decide : 1 ≤ 1)) rfl mg__law_draw kp__law_draw bd__law_draw (d_var (pv 0)) (pv 1) (a_cons (d_callB cb_len rfl g.len_ (by decide +kernel) (r_cons (d_r (d_var (pv 2))) r_nil)) a_nil))) (fun _ _ => rfl))))

theorem sc__law_outcome : FnScope ["way", "arguments", "caught", "result", "error"] ["way", "arguments"] (defScope (top 35)) := ⟨rfl, rfl, rfl, by decide +kernel, rfl, by decide +kernel, by decide +kernel⟩
theorem cal__law_outcome {P : Program} {w : World} {K : PySem.W.Frag} {mg : Str → Option Value} {base : Heap} (g : Glob K mg) (F : ∃ f fd, FnP K "_law_outcome" (top 35) f fd ∧ mg "_law_outcome" = some (.ref f)) (EF : ExF K mg) (c__law_call : CalX P w K mg base "_law_call" 6 2 ["way", "arguments"] F__law_call) (c__law_name : CalN P w K mg base "_law_name" 1  ["caught"] F__law_name) : CalP P w K mg base "_law_outcome" 7 2 ["way", "arguments"] F__law_outcome := by
  obtain ⟨f, fd, F, hm⟩ := F
  obtain ⟨f__law_call, fd__law_call, ok__law_call, mg__law_call, kp__law_call, bd__law_call⟩ := c__law_call
  obtain ⟨f__law_name, fd__law_name, ok__law_name, mg__law_name, kp__law_name, bd__law_name⟩ := c__law_name
  refine ⟨f, fd, ?_, hm, F.kp, F.bindsN fun _ _ _ _ _ _ us hl => match us, hl with | [_, _], _ => rfl⟩
  have sc := sc__law_outcome
  refine fn_P (toFun F) sc rfl fun cdv A outer s H E hr => ?_
  have hu := units64 hr
  have hu5 := units65 hr
  have hu1 := units1 hr
  exact (s_cons (s_asg (ps_set (i := 2) sc.nd rfl (Or.inl rfl) d_non))
    (s_cons (s_asg (ps_set (i := 3) sc.nd rfl (Or.inl rfl) d_non))
    (s_cons (s_tryC (jr := 3) (jc := 2) (ie := 4) EF rfl rfl rfl sc.nd rfl rfl rfl (Or.inl rfl) (Or.inl rfl) rfl rfl ok__law_call (hr.mono (by decide : 6 ≤ 6)) rfl mg__law_call kp__law_call bd__law_call (fun _ _ => (a_cons (d_var (pv 0)) (a_cons (d_var (pv 1)) a_nil))) (fun _ _ _ => pv 4))
    (s_cons (s_if (c_isN (pv 2) (nomark _)) (s_one (s_ret (d_tup (a_cons d_str (a_cons (d_var (pv 3)) a_nil))))) s_nil)
    (s_one (s_ret (d_tup (a_cons d_str (a_cons (d_callN ok__law_name (hr.mono (by decide : 1 ≤ 6)) rfl mg__law_name kp__law_name bd__law_name (pv 2)) a_nil)))))))))

theorem sc__law_name : FnScope ["caught", "found"] ["caught"] (defScope (top 36)) := ⟨rfl, rfl, rfl, by decide +kernel, rfl, by decide +kernel, by decide +kernel⟩
theorem cal__law_name {P : Program} {w : World} {K : PySem.W.Frag} {mg : Str → Option Value} {base : Heap} (g : Glob K mg) (F : ∃ f fd, FnP K "_law_name" (top 36) f fd ∧ mg "_law_name" = some (.ref f)) (EF : ExF K mg)  (gVE : mg "ValueError" = none)  : CalN P w K mg base "_law_name" 1  ["caught"] F__law_name := by
  obtain ⟨f, fd, F, hm⟩ := F
  refine ⟨f, fd, ?_, hm, F.kp, F.bindsN fun _ _ _ _ _ _ us hl => match us, hl with | [_], _ => rfl⟩
  have sc := sc__law_name
  refine fn_N (toFun F) sc rfl fun cdv A outer s H E hr => ?_
  have hu := units64 hr
  have hu5 := units65 hr
  have hu1 := units1 hr
  exact (s_cons (s_if (c_not (c_val (d_isXV EF rfl g.isinstance rfl gVE (pv 0)))) (s_one (s_ret (d_un un_negD (d_r d_int)))) s_nil)
    (s_cons (s_asg (ps_set (i := 1) sc.nd rfl (Or.inl rfl) (d_frz (l_lst (a_cons (d_isX EF (by decide +kernel) rfl g.isinstance rfl (pv 0)) (a_cons (d_isX EF (by decide +kernel) rfl g.isinstance rfl (pv 0)) a_nil))))))
    (s_cons (s_asg (ps_set (i := 1) sc.nd rfl (Or.inl rfl) (d_bin op_addD (d_r (d_var (pv 1))) (d_r (d_frz (l_lst (a_cons (d_isX EF (by decide +kernel) rfl g.isinstance rfl (pv 0)) (a_cons (d_isX EF (by decide +kernel) rfl g.isinstance rfl (pv 0)) a_nil))))))))
    (s_cons (s_asg (ps_set (i := 1) sc.nd rfl (Or.inl rfl) (d_bin op_addD (d_r (d_var (pv 1))) (d_r (d_frz (l_lst (a_cons (d_isX EF (by decide +kernel) rfl g.isinstance rfl (pv 0)) (a_cons (d_isX EF (by decide +kernel) rfl g.isinstance rfl (pv 0)) a_nil))))))))
    (s_cons (s_asg (ps_set (i := 1) sc.nd rfl (Or.inl rfl) (d_bin op_addD (d_r (d_var (pv 1))) (d_r (d_frz (l_lst (a_cons (d_isX EF (by decide +kernel) rfl g.isinstance rfl (pv 0)) (a_cons (d_isX EF (by decide +kernel) rfl g.isinstance rfl (pv 0)) a_nil))))))))
    (s_cons (s_asg (ps_set (i := 1) sc.nd rfl (Or.inl rfl) (d_bin op_addD (d_r (d_var (pv 1))) (d_r (d_frz (l_lst (a_cons (d_isX EF (by decide +kernel) rfl g.isinstance rfl (pv 0)) (a_cons (d_isX EF (by decide +kernel) rfl g.isinstance rfl (pv 0)) a_nil))))))))
    (s_cons (s_asg (ps_set (i := 1) sc.nd rfl (Or.inl rfl) (d_bin op_addD (d_r (d_var (pv 1))) (d_r (d_frz (l_lst (a_cons (d_isX EF (by decide +kernel) rfl g.isinstance rfl (pv 0)) (a_cons (d_isX EF (by decide +kernel) rfl g.isinstance rfl (pv 0)) a_nil))))))))
    (s_cons (s_asg (ps_set (i := 1) sc.nd rfl (Or.inl rfl) (d_bin op_addD (d_r (d_var (pv 1))) (d_r (d_frz (l_lst (a_cons (d_isX EF (by decide +kernel) rfl g.isinstance rfl (pv 0)) a_nil)))))))
    (s_one (s_ret (d_if (c_cmp (op_eqQ hu) (d_r (d_count (d_var (pv 1)) d_bl)) (d_r d_int) (nomark _)) (d_index (d_var (pv 1)) d_bl) (d_un un_negD (d_r d_int)))))))))))))

theorem sc__law_raises : FnScope ["name", "names"] ["name"] (defScope (top 37)) := ⟨rfl, rfl, rfl, by decide +kernel, rfl, by decide +kernel, by decide +kernel⟩
theorem cal__law_raises {P : Program} {w : World} {K : PySem.W.Frag} {mg : Str → Option Value} {base : Heap} (g : Glob K mg) (F : ∃ f fd, FnP K "_law_raises" (top 37) f fd ∧ mg "_law_raises" = some (.ref f))  : CalP P w K mg base "_law_raises" 1 1 ["name"] F__law_raises := by
  obtain ⟨f, fd, F, hm⟩ := F
  refine ⟨f, fd, ?_, hm, F.kp, F.bindsN fun _ _ _ _ _ _ us hl => match us, hl with | [_], _ => rfl⟩
  have sc := sc__law_raises
  refine fn_P (toFun F) sc rfl fun cdv A outer s H E hr => ?_
  have hu := units64 hr
  have hu5 := units65 hr
  have hu1 := units1 hr
  exact (s_cons (s_asg (ps_set (i := 1) sc.nd rfl (Or.inl rfl) (d_frz (l_lst (a_cons d_str (a_cons d_str (a_cons d_str (a_cons d_str (a_cons d_str (a_cons d_str (a_cons d_str a_nil)))))))))))
    (s_cons (s_asg (ps_set (i := 1) sc.nd rfl (Or.inl rfl) (d_bin op_addD (d_r (d_var (pv 1))) (d_r (d_frz (l_lst (a_cons d_str (a_cons d_str (a_cons d_str (a_cons d_str (a_cons d_str (a_cons d_str a_nil))))))))))))
    (s_one (s_ret (d_tup (a_cons d_str (a_cons (d_index (d_var (pv 1)) (d_var (pv 0))) a_nil)))))))

theorem sc__law_pairs : FnScope ["script", "town", "holders", "numbers", "some", "holder"] ["script", "town", "holders", "numbers"] (defScope (top 38)) := ⟨rfl, rfl, rfl, by decide +kernel, rfl, by decide +kernel, by decide +kernel⟩
theorem cal__law_pairs {P : Program} {w : World} {K : PySem.W.Frag} {mg : Str → Option Value} {base : Heap} (g : Glob K mg) (F : ∃ f fd, FnP K "_law_pairs" (top 38) f fd ∧ mg "_law_pairs" = some (.ref f)) (c__law_draw : CalT P w K mg base "_law_draw" 1 1 ["script", "town", "limit"] F__law_draw) (c__law_pick : CalT P w K mg base "_law_pick" 2 1 ["script", "town", "choices"] F__law_pick) : CalT P w K mg base "_law_pairs" 3 2 ["script", "town", "holders", "numbers"] F__law_pairs := by
  obtain ⟨f, fd, F, hm⟩ := F
  obtain ⟨f__law_draw, fd__law_draw, ok__law_draw, mg__law_draw, kp__law_draw, bd__law_draw⟩ := c__law_draw
  obtain ⟨f__law_pick, fd__law_pick, ok__law_pick, mg__law_pick, kp__law_pick, bd__law_pick⟩ := c__law_pick
  refine ⟨f, fd, ?_, hm, F.kp, F.bindsN fun _ _ _ _ _ _ us hl => match us, hl with | [_, _, _, _], _ => rfl⟩
  have sc := sc__law_pairs
  refine fn_T (toFun F) sc rfl fun cdv A outer s H E hr => ?_
  have hu := units64 hr
  have hu5 := units65 hr
  have hu1 := units1 hr
  exact (s_cons (s_asg (as_frz (as_comp (by decide) (ps_setLc (own := [("holder", 5)]) (i := 4) rfl sc.nd rfl rfl (sw_true rfl rfl rfl (by decide +kernel)) (i_rng rfl g.range_ (a_cons (d_var (pv 2)) a_nil)) (blkOk_by (own := [("holder", 5)]) (N := ["script", "town", "holders", "numbers", "some", "holder"]) (sc := defScope (top 38)) (by decide +kernel)) (fun _ _ _ _ _ => (g_name (pg_name (i := 5) sc.nd rfl (Or.inl rfl)))) (fun _ _ _ _ _ => (t_one (c_cmp (op_eqQ hu) (d_r (d_callT ok__law_draw (hr.mono (by decide : 1 ≤ 2)) rfl mg__law_draw kp__law_draw bd__law_draw (d_var (pv 0)) (pv 1) (a_cons d_int a_nil))) (d_r d_int) (nomark _)))) (fun _ _ _ _ _ => (d_var (pv 5)))))))
    (s_cons (s_if (c_cmp (op_eqQ hu) (d_r (d_var (pv 4))) (d_r (d_frz (l_lst a_nil))) (nomark _)) (s_one (s_asg (ps_set (i := 4) sc.nd rfl (Or.inl rfl) (d_frz (l_lst (a_cons (d_callT ok__law_draw (hr.mono (by decide : 1 ≤ 2)) rfl mg__law_draw kp__law_draw bd__law_draw (d_var (pv 0)) (pv 1) (a_cons (d_var (pv 2)) a_nil)) a_nil)))))) s_nil)
    (s_one (s_ret (d_callTy ct_tuple rfl g.tuple_ (by decide +kernel) (r_cons (d_r (d_frz (l_comp (own := [("holder", 5)]) rfl sc.nd (i_seq (d_var (pv 4))) (blkOk_by (own := [("holder", 5)]) (N := ["script", "town", "holders", "numbers", "some", "holder"]) (sc := defScope (top 38)) (by decide +kernel)) (fun _ _ _ _ _ => (g_name (pg_name (i := 5) sc.nd rfl (Or.inl rfl)))) (fun _ _ _ _ _ => t_yes) (fun _ _ _ _ _ => (d_tup (a_cons (d_var (pv 5)) (a_cons (d_callT ok__law_pick (hr.mono (by decide : 2 ≤ 2)) rfl mg__law_pick kp__law_pick bd__law_pick (d_var (pv 0)) (pv 1) (a_cons (d_var (pv 3)) a_nil)) a_nil)))) (by decide)))) r_nil))))))

theorem sc__law_rung : FnScope ["script", "town", "holders", "kind", "weights", "free", "caps", "holder", "weight"] ["script", "town", "holders", "kind"] (defScope (top 39)) := ⟨rfl, rfl, rfl, by decide +kernel, rfl, by decide +kernel, by decide +kernel⟩
theorem cal__law_rung {P : Program} {w : World} {K : PySem.W.Frag} {mg : Str → Option Value} {base : Heap} (g : Glob K mg) (F : ∃ f fd, FnP K "_law_rung" (top 39) f fd ∧ mg "_law_rung" = some (.ref f)) (c__law_pairs : CalT P w K mg base "_law_pairs" 3 2 ["script", "town", "holders", "numbers"] F__law_pairs) (c__law_pick : CalT P w K mg base "_law_pick" 2 1 ["script", "town", "choices"] F__law_pick) (c__law_draw : CalT P w K mg base "_law_draw" 1 1 ["script", "town", "limit"] F__law_draw) : CalT P w K mg base "_law_rung" 4 2 ["script", "town", "holders", "kind"] F__law_rung := by
  obtain ⟨f, fd, F, hm⟩ := F
  obtain ⟨f__law_pairs, fd__law_pairs, ok__law_pairs, mg__law_pairs, kp__law_pairs, bd__law_pairs⟩ := c__law_pairs
  obtain ⟨f__law_pick, fd__law_pick, ok__law_pick, mg__law_pick, kp__law_pick, bd__law_pick⟩ := c__law_pick
  obtain ⟨f__law_draw, fd__law_draw, ok__law_draw, mg__law_draw, kp__law_draw, bd__law_draw⟩ := c__law_draw
  refine ⟨f, fd, ?_, hm, F.kp, F.bindsN fun _ _ _ _ _ _ us hl => match us, hl with | [_, _, _, _], _ => rfl⟩
  have sc := sc__law_rung
  refine fn_T (toFun F) sc rfl fun cdv A outer s H E hr => ?_
  have hu := units64 hr
  have hu5 := units65 hr
  have hu1 := units1 hr
  exact (s_cons (s_if (c_cmp (op_eqQ hu) (d_r (d_var (pv 3))) (d_r d_int) (nomark _)) (s_one (s_ret (d_tup (a_cons d_str (a_cons (d_callT ok__law_pairs (hr.mono (by decide : 3 ≤ 3)) rfl mg__law_pairs kp__law_pairs bd__law_pairs (d_var (pv 0)) (pv 1) (a_cons (d_var (pv 2)) (a_cons (d_frz (l_lst (a_cons d_int (a_cons d_int (a_cons d_int (a_cons d_int (a_cons d_int (a_cons d_int (a_cons d_int (a_cons d_int a_nil)))))))))) a_nil))) a_nil))))) s_nil)
    (s_cons (s_asg (ps_set (i := 4) sc.nd rfl (Or.inl rfl) (d_callT ok__law_pairs (hr.mono (by decide : 3 ≤ 3)) rfl mg__law_pairs kp__law_pairs bd__law_pairs (d_var (pv 0)) (pv 1) (a_cons (d_var (pv 2)) (a_cons (d_frz (l_lst (a_cons d_int (a_cons d_int (a_cons d_int (a_cons d_int (a_cons d_int (a_cons d_int a_nil)))))))) a_nil)))))
    (s_cons (s_asg (ps_set (i := 5) sc.nd rfl (Or.inl rfl) (d_if (c_cmp (op_eqQ hu) (d_r (d_var (pv 3))) (d_r d_int) (nomark _)) (d_ix ix_D (d_r (d_callT ok__law_pick (hr.mono (by decide : 2 ≤ 3)) rfl mg__law_pick kp__law_pick bd__law_pick (d_var (pv 0)) (pv 1) (a_cons (d_var (pv 4)) a_nil))) (d_r d_int) (fun _ _ => rfl)) (d_un un_negD (d_r d_int)))))
    (s_cons (s_own (ps_set (i := 6) sc.nd rfl (Or.inl rfl) (l_lst a_nil)))
    (s_cons (s_for PassesOwn.never rfl (i_seq (d_var (pv 4))) (g_tup rfl (gs_cons (g_name (pg_name (i := 7) sc.nd rfl (Or.inl rfl))) (gs_cons (g_name (pg_name (i := 8) sc.nd rfl (Or.inl rfl))) gs_nil))) (s_one (s_if (PW.pt (c_and (c_cmp (op_neQ hu) (d_r (d_var (pv 7))) (d_r (d_var (pv 5))) (nomark _)) (c_and1 (c_cmp op_gtD (d_r (d_callT ok__law_draw (hr.mono (by decide : 1 ≤ 3)) rfl mg__law_draw kp__law_draw bd__law_draw (d_var (pv 0)) (pv 1) (a_cons d_int a_nil))) (d_r d_int) (nomark _))))) (s_one (s_app (ps_expr (pe_bm PySem.F.plainAttrs_list PySem.F.slot_list_append PySem.F.type_list_append mt_append (pv 6) (pa_cons (d_tup (a_cons (d_var (pv 7)) (a_cons (d_callT ok__law_pick (hr.mono (by decide : 2 ≤ 3)) rfl mg__law_pick kp__law_pick bd__law_pick (d_var (pv 0)) (pv 1) (a_cons (d_frz (l_lst (a_cons d_int (a_cons d_int (a_cons d_int (a_cons d_int (a_cons d_int (a_cons d_int (a_cons (d_bin op_mulD (d_r d_int) (d_r (d_var (pv 8)))) a_nil))))))))) a_nil)) a_nil))) pa_nil))))) s_nil)))
    (s_one (s_ret (d_tup (a_cons d_str (a_cons (d_var (pv 4)) (a_cons (d_callTy ct_tuple rfl g.tuple_ (by decide +kernel) (r_cons (d_bor (pv 6)) r_nil)) a_nil)))))))))))

theorem sc__law_ladder : FnScope ["script", "town", "most", "holders", "rungs", "k"] ["script", "town", "most"] (defScope (top 40)) := ⟨rfl, rfl, rfl, by decide +kernel, rfl, by decide +kernel, by decide +kernel⟩
theorem cal__law_ladder {P : Program} {w : World} {K : PySem.W.Frag} {mg : Str → Option Value} {base : Heap} (g : Glob K mg) (F : ∃ f fd, FnP K "_law_ladder" (top 40) f fd ∧ mg "_law_ladder" = some (.ref f)) (c__law_draw : CalT P w K mg base "_law_draw" 1 1 ["script", "town", "limit"] F__law_draw) (c__law_rung : CalT P w K mg base "_law_rung" 4 2 ["script", "town", "holders", "kind"] F__law_rung) : CalT P w K mg base "_law_ladder" 5 1 ["script", "town", "most"] F__law_ladder := by
  obtain ⟨f, fd, F, hm⟩ := F
  obtain ⟨f__law_draw, fd__law_draw, ok__law_draw, mg__law_draw, kp__law_draw, bd__law_draw⟩ := c__law_draw
  obtain ⟨f__law_rung, fd__law_rung, ok__law_rung, mg__law_rung, kp__law_rung, bd__law_rung⟩ := c__law_rung
  refine ⟨f, fd, ?_, hm, F.kp, F.bindsN fun _ _ _ _ _ _ us hl => match us, hl with | [_, _, _], _ => rfl⟩
  have sc := sc__law_ladder
  refine fn_T (toFun F) sc rfl fun cdv A outer s H E hr => ?_
  have hu := units64 hr
  have hu5 := units65 hr
  have hu1 := units1 hr
  exact (s_cons (s_asg (ps_set (i := 3) sc.nd rfl (Or.inr rfl) (d_bin op_addD (d_r d_int) (d_r (d_callT ok__law_draw (hr.mono (by decide : 1 ≤ 4)) rfl mg__law_draw kp__law_draw bd__law_draw (d_var (pv 0)) (pv 1) (a_cons (d_var (pv 2)) a_nil))))))
    (s_cons (s_asg (as_frz (as_comp (by decide) (ps_setLc (own := [("k", 5)]) (i := 4) rfl sc.nd rfl rfl (sw_true rfl rfl rfl (by decide +kernel)) (i_rng rfl g.range_ (a_cons (d_callT ok__law_draw (hr.mono (by decide : 1 ≤ 4)) rfl mg__law_draw kp__law_draw bd__law_draw (d_var (pv 0)) (pv 1) (a_cons d_int a_nil)) a_nil)) (blkOk_by (own := [("k", 5)]) (N := ["script", "town", "most", "holders", "rungs", "k"]) (sc := defScope (top 40)) (by decide +kernel)) (fun _ _ _ _ _ => (g_name (pg_name (i := 5) sc.nd rfl (Or.inl rfl)))) (fun _ _ _ _ _ => t_yes) (fun _ _ _ _ _ => (d_callT ok__law_rung (hr.mono (by decide : 4 ≤ 4)) rfl mg__law_rung kp__law_rung bd__law_rung (d_var (pv 0)) (pv 1) (a_cons (d_var (pv 3)) (a_cons (d_callT ok__law_draw (hr.mono (by decide : 1 ≤ 4)) rfl mg__law_draw kp__law_draw bd__law_draw (d_var (pv 0)) (pv 1) (a_cons d_int a_nil)) a_nil))))))))
    (s_one (s_ret (d_tup (a_cons (d_var (pv 3)) (a_cons (d_bin op_addD (d_r (d_callTy ct_tuple rfl g.tuple_ (by decide +kernel) (r_cons (d_r (d_var (pv 4))) r_nil))) (d_r (d_tup (a_cons (d_callT ok__law_rung (hr.mono (by decide : 4 ≤ 4)) rfl mg__law_rung kp__law_rung bd__law_rung (d_var (pv 0)) (pv 1) (a_cons (d_var (pv 3)) (a_cons d_int a_nil))) a_nil)))) a_nil)))))))

theorem sc__law_call : FnScope ["way", "arguments"] ["way", "arguments"] (defScope (top 41)) := ⟨rfl, rfl, rfl, by decide +kernel, rfl, by decide +kernel, by decide +kernel⟩
theorem cal__law_call {P : Program} {w : World} {K : PySem.W.Frag} {mg : Str → Option Value} {base : Heap} (g : Glob K mg) (F : ∃ f fd, FnP K "_law_call" (top 41) f fd ∧ mg "_law_call" = some (.ref f)) (c_X_parse_ladder : CalX P w K mg base "parse_ladder" 5 1 ["text"] F_X_parse_ladder) : CalX P w K mg base "_law_call" 6 2 ["way", "arguments"] F__law_call := by
  obtain ⟨f, fd, F, hm⟩ := F
  obtain ⟨f_X_parse_ladder, fd_X_parse_ladder, ok_X_parse_ladder, mg_X_parse_ladder, kp_X_parse_ladder, bd_X_parse_ladder⟩ := c_X_parse_ladder
  refine ⟨f, fd, ?_, hm, F.kp, F.bindsN fun _ _ _ _ _ _ us hl => match us, hl with | [_, _], _ => rfl⟩
  have sc := sc__law_call
  refine fn_X (toFun F) sc rfl fun cdv A outer s H E hr => ?_
  have hu := units64 hr
  have hu5 := units65 hr
  have hu1 := units1 hr
  exact (s_one (s_ret (d_callE ok_X_parse_ladder (hr.mono (by decide : 5 ≤ 5)) rfl mg_X_parse_ladder kp_X_parse_ladder bd_X_parse_ladder tkOf (a_cons (d_var (pv 1)) a_nil))))

theorem sc__law_row : FnScope ["pairs", "holder", "one"] ["pairs"] (defScope (top 42)) := ⟨rfl, rfl, rfl, by decide +kernel, rfl, by decide +kernel, by decide +kernel⟩
theorem cal__law_row {P : Program} {w : World} {K : PySem.W.Frag} {mg : Str → Option Value} {base : Heap} (g : Glob K mg) (F : ∃ f fd, FnP K "_law_row" (top 42) f fd ∧ mg "_law_row" = some (.ref f))  : CalP P w K mg base "_law_row" 1 1 ["pairs"] F__law_row := by
  obtain ⟨f, fd, F, hm⟩ := F
  refine ⟨f, fd, ?_, hm, F.kp, F.bindsN fun _ _ _ _ _ _ us hl => match us, hl with | [_], _ => rfl⟩
  have sc := sc__law_row
  refine fn_P (toFun F) sc rfl fun cdv A outer s H E hr => ?_
  have hu := units64 hr
  have hu5 := units65 hr
  have hu1 := units1 hr
  exact (s_one (s_ret (d_join d_str (d_frz (l_comp (own := [("holder", 1), ("one", 2)]) rfl sc.nd (i_seq (d_var (pv 0))) (blkOk_by (own := [("holder", 1), ("one", 2)]) (N := ["pairs", "holder", "one"]) (sc := defScope (top 42)) (by decide +kernel)) (fun _ _ _ _ _ => (g_tup rfl (gs_cons (g_name (pg_name (i := 1) sc.nd rfl (Or.inl rfl))) (gs_cons (g_name (pg_name (i := 2) sc.nd rfl (Or.inl rfl))) gs_nil)))) (fun _ _ _ _ _ => t_yes) (fun _ _ _ _ _ => (d_bin op_addD (d_r (d_bin op_addD (d_r (d_callTy ct_str rfl g.str_ (by decide +kernel) (r_cons (d_r (d_var (pv 1))) r_nil))) (d_r d_str))) (d_r (d_callTy ct_str rfl g.str_ (by decide +kernel) (r_cons (d_r (d_var (pv 2))) r_nil))))) (by decide))))))

theorem sc__law_line : FnScope ["ladder", "rows", "rung", "row"] ["ladder"] (defScope (top 43)) := ⟨rfl, rfl, rfl, by decide +kernel, rfl, by decide +kernel, by decide +kernel⟩
theorem cal__law_line {P : Program} {w : World} {K : PySem.W.Frag} {mg : Str → Option Value} {base : Heap} (g : Glob K mg) (F : ∃ f fd, FnP K "_law_line" (top 43) f fd ∧ mg "_law_line" = some (.ref f)) (c__law_row : CalP P w K mg base "_law_row" 1 1 ["pairs"] F__law_row) : CalP P w K mg base "_law_line" 2 1 ["ladder"] F__law_line := by
  obtain ⟨f, fd, F, hm⟩ := F
  obtain ⟨f__law_row, fd__law_row, ok__law_row, mg__law_row, kp__law_row, bd__law_row⟩ := c__law_row
  refine ⟨f, fd, ?_, hm, F.kp, F.bindsN fun _ _ _ _ _ _ us hl => match us, hl with | [_], _ => rfl⟩
  have sc := sc__law_line
  refine fn_P (toFun F) sc rfl fun cdv A outer s H E hr => ?_
  have hu := units64 hr
  have hu5 := units65 hr
  have hu1 := units1 hr
  exact (s_cons (s_own (ps_set (i := 1) sc.nd rfl (Or.inl rfl) (l_lst a_nil)))
    (s_cons (s_for PassesOwn.never rfl (i_seq (d_ix ix_D (d_r (d_var (pv 0))) (d_r d_int) (fun _ _ => rfl))) (g_name (pg_name (i := 2) sc.nd rfl (Or.inl rfl))) (s_cons (s_asg (ps_set (i := 3) sc.nd rfl (Or.inl rfl) (d_bin op_addD (d_r (d_if (c_cmp (op_eqQ hu) (d_r (d_ix ix_D (d_r (d_var (pv 2))) (d_r d_int) (fun _ _ => rfl))) (d_r d_str) (nomark _)) d_str d_str)) (d_r (d_call ok__law_row (hr.mono (by decide : 1 ≤ 1)) rfl mg__law_row kp__law_row bd__law_row (a_cons (d_ix ix_D (d_r (d_var (pv 2))) (d_r d_int) (fun _ _ => rfl)) a_nil))))))
    (s_cons (s_if (PW.pt (c_and (c_cmp (op_eqQ hu) (d_r (d_ix ix_D (d_r (d_var (pv 2))) (d_r d_int) (fun _ _ => rfl))) (d_r d_str) (nomark _)) (c_and1 (c_cmp (op_neQ hu) (d_r (d_ix ix_D (d_r (d_var (pv 2))) (d_r d_int) (fun _ _ => rfl))) (d_r (d_tup a_nil)) (nomark _))))) (s_one (s_asg (ps_set (i := 3) sc.nd rfl (Or.inl rfl) (d_bin op_addD (d_r (d_bin op_addD (d_r (d_var (pv 3))) (d_r d_str))) (d_r (d_call ok__law_row (hr.mono (by decide : 1 ≤ 1)) rfl mg__law_row kp__law_row bd__law_row (a_cons (d_ix ix_D (d_r (d_var (pv 2))) (d_r d_int) (fun _ _ => rfl)) a_nil))))))) s_nil)
    (s_one (s_app (ps_expr (pe_bm PySem.F.plainAttrs_list PySem.F.slot_list_append PySem.F.type_list_append mt_append (pv 1) (pa_cons (d_var (pv 3)) pa_nil))))))))
    (s_one (s_frz 1 (s_ret (d_bin op_addD (d_r (d_bin op_addD (d_r (d_callTy ct_str rfl g.str_ (by decide +kernel) (r_cons (d_r (d_ix ix_D (d_r (d_var (pv 0))) (d_r d_int) (fun _ _ => rfl))) r_nil))) (d_r d_str))) (d_r (d_join d_str (d_var (pv 1))))))))))

theorem sc_law : FnScope ["script", "town", "ladder", "line", "k", "bads", "due", "at", "sign", "other", "told", "bad"] ["script"] (defScope (top 44)) := ⟨rfl, rfl, rfl, by decide +kernel, rfl, by decide +kernel, by decide +kernel⟩
theorem ok_law {P : Program} {w : World} {K : PySem.W.Frag} {mg : Str → Option Value} {base : Heap} {f : Addr} {fd : FuncData} (g : Glob K mg) (F : FnP K "law" (top 44) f fd) (c__law_town : CalL P w K mg base "_law_town" 1 1 ["script"] F__law_town) (c__law_ladder : CalT P w K mg base "_law_ladder" 5 1 ["script", "town", "most"] F__law_ladder) (c__law_line : CalP P w K mg base "_law_line" 2 1 ["ladder"] F__law_line) (c__law_draw : CalT P w K mg base "_law_draw" 1 1 ["script", "town", "limit"] F__law_draw) (c__law_pick : CalT P w K mg base "_law_pick" 2 1 ["script", "town", "choices"] F__law_pick) (c__law_outcome : CalP P w K mg base "_law_outcome" 7 2 ["way", "arguments"] F__law_outcome) (c_format_ladder : CalP P w K mg base "format_ladder" 6 1 ["ladder"] F_format_ladder) (c_is_ladder : CalP P w K mg base "is_ladder" 4 1 ["value"] F_is_ladder) (c__law_raises : CalP P w K mg base "_law_raises" 1 1 ["name"] F__law_raises) : FnOk P w K mg base CX0 8 f fd ["script"] (spP K 1 F_law) := by
  obtain ⟨f__law_town, fd__law_town, ok__law_town, mg__law_town, kp__law_town, bd__law_town⟩ := c__law_town
  obtain ⟨f__law_ladder, fd__law_ladder, ok__law_ladder, mg__law_ladder, kp__law_ladder, bd__law_ladder⟩ := c__law_ladder
  obtain ⟨f__law_line, fd__law_line, ok__law_line, mg__law_line, kp__law_line, bd__law_line⟩ := c__law_line
  obtain ⟨f__law_draw, fd__law_draw, ok__law_draw, mg__law_draw, kp__law_draw, bd__law_draw⟩ := c__law_draw
  obtain ⟨f__law_pick, fd__law_pick, ok__law_pick, mg__law_pick, kp__law_pick, bd__law_pick⟩ := c__law_pick
  obtain ⟨f__law_outcome, fd__law_outcome, ok__law_outcome, mg__law_outcome, kp__law_outcome, bd__law_outcome⟩ := c__law_outcome
  obtain ⟨f_format_ladder, fd_format_ladder, ok_format_ladder, mg_format_ladder, kp_format_ladder, bd_format_ladder⟩ := c_format_ladder
  obtain ⟨f_is_ladder, fd_is_ladder, ok_is_ladder, mg_is_ladder, kp_is_ladder, bd_is_ladder⟩ := c_is_ladder
  obtain ⟨f__law_raises, fd__law_raises, ok__law_raises, mg__law_raises, kp__law_raises, bd__law_raises⟩ := c__law_raises
  have sc := sc_law
  refine fn_P (toFun F) sc rfl fun cdv A outer s H E hr => ?_
  have hu := units64 hr
  have hu5 := units65 hr
  have hu1 := units1 hr
  exact (s_cons (s_town (ps_set (i := 1) sc.nd rfl (Or.inl rfl) (l_call ok__law_town (hr.mono (by decide : 1 ≤ 7)) rfl mg__law_town kp__law_town bd__law_town (a_cons (d_var (pv 0)) a_nil))))
    (s_cons (s_asg (ps_set (i := 2) sc.nd rfl (Or.inl rfl) (d_callT ok__law_ladder (hr.mono (by decide : 5 ≤ 7)) rfl mg__law_ladder kp__law_ladder bd__law_ladder (d_var (pv 0)) (pv 1) (a_cons d_int a_nil))))
    (s_cons (s_asg (ps_set (i := 3) sc.nd rfl (Or.inl rfl) (d_call ok__law_line (hr.mono (by decide : 2 ≤ 7)) rfl mg__law_line kp__law_line bd__law_line (a_cons (d_var (pv 2)) a_nil))))
    (s_cons (s_if (PW.pt (c_or (c_cmp (op_neQ hu) (d_r (d_call ok_format_ladder (hr.mono (by decide : 6 ≤ 7)) rfl mg_format_ladder kp_format_ladder bd_format_ladder (a_cons (d_var (pv 2)) a_nil))) (d_r (d_var (pv 3))) (nomark _)) (c_or1 (c_cmp (op_neQ hu) (d_r (d_call ok__law_outcome (hr.mono (by decide : 7 ≤ 7)) rfl mg__law_outcome kp__law_outcome bd__law_outcome (a_cons d_int (a_cons (d_var (pv 3)) a_nil)))) (d_r (d_tup (a_cons d_str (a_cons (d_var (pv 2)) a_nil)))) (nomark _))))) (s_one (s_ret d_bl)) s_nil)
    (s_cons (s_for PassesOwn.never rfl (i_rng rfl g.range_ (a_cons d_int a_nil)) (g_name (pg_name (i := 4) sc.nd rfl (Or.inl rfl))) (s_cons (s_asg (ps_set (i := 7) sc.nd rfl (Or.inl rfl) (d_callT ok__law_draw (hr.mono (by decide : 1 ≤ 7)) rfl mg__law_draw kp__law_draw bd__law_draw (d_var (pv 0)) (pv 1) (a_cons (d_bin op_addD (d_r (d_callB cb_len rfl g.len_ (by decide +kernel) (r_cons (d_r (d_var (pv 3))) r_nil))) (d_r d_int)) a_nil))))
    (s_cons (s_asg (ps_set (i := 8) sc.nd rfl (Or.inl rfl) (d_callT ok__law_pick (hr.mono (by decide : 2 ≤ 7)) rfl mg__law_pick kp__law_pick bd__law_pick (d_var (pv 0)) (pv 1) (a_cons (d_bin op_addD (d_r (d_frz (l_callTy (ct_listT rfl) rfl g.list_ (by decide +kernel) (r_cons (d_r d_str) r_nil)))) (d_r (d_frz (l_lst (a_cons d_str (a_cons d_str (a_cons d_str (a_cons d_str a_nil)))))))) a_nil))))
    (s_cons (s_asg (ps_set (i := 9) sc.nd rfl (Or.inl rfl) (d_bin op_addD (d_r (d_bin op_addD (d_r (d_slice (d_r (d_var (pv 3))) o_none (o_some (d_var (pv 7))))) (d_r (d_var (pv 8))))) (d_r (d_slice (d_r (d_var (pv 3))) (o_some (d_bin op_addD (d_r (d_var (pv 7))) (d_r (d_callT ok__law_draw (hr.mono (by decide : 1 ≤ 7)) rfl mg__law_draw kp__law_draw bd__law_draw (d_var (pv 0)) (pv 1) (a_cons d_int a_nil))))) o_none)))))
    (s_cons (s_asg (ps_set (i := 10) sc.nd rfl (Or.inl rfl) (d_call ok__law_outcome (hr.mono (by decide : 7 ≤ 7)) rfl mg__law_outcome kp__law_outcome bd__law_outcome (a_cons d_int (a_cons (d_var (pv 9)) a_nil)))))
    (s_one (s_if (c_cmp (op_eqQ hu) (d_r (d_ix ix_D (d_r (d_var (pv 10))) (d_r d_int) (fun _ _ => rfl))) (d_r d_str) (nomark _)) (s_one (s_if (PW.pt (c_or (c_cmp op_isNotQ (d_r (d_call ok_is_ladder (hr.mono (by decide : 4 ≤ 7)) rfl mg_is_ladder kp_is_ladder bd_is_ladder (a_cons (d_ix ix_D (d_r (d_var (pv 10))) (d_r d_int) (fun _ _ => rfl)) a_nil))) (d_r d_bl) (nomark _)) (c_or1 (c_cmp (op_neQ hu) (d_r (d_call ok__law_line (hr.mono (by decide : 2 ≤ 7)) rfl mg__law_line kp__law_line bd__law_line (a_cons (d_ix ix_D (d_r (d_var (pv 10))) (d_r d_int) (fun _ _ => rfl)) a_nil))) (d_r (d_var (pv 9))) (nomark _))))) (s_one (s_ret d_bl)) s_nil)) (s_one (s_if (PW.pt (c_or (c_cmp (op_neQ hu) (d_r (d_var (pv 10))) (d_r (d_call ok__law_raises (hr.mono (by decide : 1 ≤ 7)) rfl mg__law_raises kp__law_raises bd__law_raises (a_cons d_str a_nil))) (nomark _)) (c_or1 (c_cmp (op_eqQ hu) (d_r (d_var (pv 9))) (d_r (d_var (pv 3))) (nomark _))))) (s_one (s_ret d_bl)) s_nil)))))))))
    (s_cons (s_asg (ps_set (i := 5) sc.nd rfl (Or.inl rfl) (d_frz (l_lst (a_cons d_non (a_cons d_int (a_cons d_str (a_cons d_str (a_cons d_str (a_cons d_str (a_cons d_str (a_cons d_str (a_cons d_str (a_cons d_str (a_cons d_str (a_cons d_str (a_cons d_str a_nil)))))))))))))))))
    (s_cons (s_asg (ps_set (i := 5) sc.nd rfl (Or.inl rfl) (d_bin op_addD (d_r (d_var (pv 5))) (d_r (d_frz (l_lst (a_cons d_str (a_cons d_str (a_cons d_str (a_cons d_str (a_cons d_str (a_cons d_str a_nil))))))))))))
    (s_cons (s_asg (ps_set (i := 5) sc.nd rfl (Or.inl rfl) (d_bin op_addD (d_r (d_var (pv 5))) (d_r (d_frz (l_lst (a_cons d_str (a_cons d_str (a_cons d_str (a_cons d_str (a_cons d_str (a_cons (d_var (pv 2)) (a_cons (d_frz (l_lst (a_cons (d_var (pv 3)) a_nil))) a_nil)))))))))))))
    (s_cons (s_asg (ps_set (i := 5) sc.nd rfl (Or.inl rfl) (d_bin op_addD (d_r (d_var (pv 5))) (d_r (d_frz (l_lst (a_cons (d_bin op_addD (d_r (d_var (pv 3))) (d_r d_str)) (a_cons (d_bin op_addD (d_r d_str) (d_r (d_var (pv 3)))) (a_cons d_bl (a_cons d_str a_nil))))))))))
    (s_cons (s_if (c_cmp (op_neQ hu) (d_r (d_frz (l_comp (own := [("bad", 11)]) rfl sc.nd (i_seq (d_var (pv 5))) (blkOk_by (own := [("bad", 11)]) (N := ["script", "town", "ladder", "line", "k", "bads", "due", "at", "sign", "other", "told", "bad"]) (sc := defScope (top 44)) (by decide +kernel)) (fun _ _ _ _ _ => (g_name (pg_name (i := 11) sc.nd rfl (Or.inl rfl)))) (fun _ _ _ _ _ => (t_one (c_cmp (op_neQ hu) (d_r (d_call ok__law_outcome (hr.mono (by decide : 7 ≤ 7)) rfl mg__law_outcome kp__law_outcome bd__law_outcome (a_cons d_int (a_cons (d_var (pv 11)) a_nil)))) (d_r (d_call ok__law_raises (hr.mono (by decide : 1 ≤ 7)) rfl mg__law_raises kp__law_raises bd__law_raises (a_cons d_str a_nil))) (nomark _)))) (fun _ _ _ _ _ => (d_var (pv 11))) (by decide)))) (d_r (d_frz (l_lst a_nil))) (nomark _)) (s_one (s_ret d_bl)) s_nil)
    (s_cons (s_asg (ps_set (i := 6) sc.nd rfl (Or.inl rfl) (d_tup (a_cons d_int (a_cons (d_tup (a_cons (d_tup (a_cons d_str (a_cons (d_tup (a_cons (d_tup (a_cons d_int (a_cons d_int a_nil))) a_nil)) a_nil))) (a_cons (d_tup (a_cons d_str (a_cons (d_tup (a_cons (d_tup (a_cons d_int (a_cons d_int a_nil))) (a_cons (d_tup (a_cons d_int (a_cons d_int a_nil))) a_nil))) (a_cons (d_tup (a_cons (d_tup (a_cons d_int (a_cons d_int a_nil))) a_nil)) a_nil)))) a_nil))) a_nil)))))
    (s_one (s_ret (d_cmp (op_eqQ hu) (d_r (d_call ok__law_outcome (hr.mono (by decide : 7 ≤ 7)) rfl mg__law_outcome kp__law_outcome bd__law_outcome (a_cons d_int (a_cons d_str a_nil)))) (d_r (d_tup (a_cons d_str (a_cons (d_var (pv 6)) a_nil)))) (nomark _)))))))))))))))

theorem sc_X_parse_ladder : FnScope ["text", "sides", "found", "part"] ["text"] (defScope (top 30)) := ⟨rfl, rfl, rfl, by decide +kernel, rfl, by decide +kernel, by decide +kernel⟩
theorem cal_X_parse_ladder {P : Program} {w : World} {K : PySem.W.Frag} {mg : Str → Option Value} {base : Heap} (g : Glob K mg) (F : ∃ f fd, FnP K "parse_ladder" (top 30) f fd ∧ mg "parse_ladder" = some (.ref f)) (EF : ExF K mg) (c_number_of : CalP P w K mg base "number_of" 1 1 ["word"] F_number_of) (c_is_ladder : CalP P w K mg base "is_ladder" 4 1 ["value"] F_is_ladder) (c_ladder_text : CalP P w K mg base "ladder_text" 3 1 ["ladder"] F_ladder_text) (c_read_rung : CalP P w K mg base "read_rung" 3 1 ["text"] F_read_rung) : CalX P w K mg base "parse_ladder" 5 1 ["text"] F_X_parse_ladder := by
  obtain ⟨f, fd, F, hm⟩ := F
  obtain ⟨f_number_of, fd_number_of, ok_number_of, mg_number_of, kp_number_of, bd_number_of⟩ := c_number_of
  obtain ⟨f_is_ladder, fd_is_ladder, ok_is_ladder, mg_is_ladder, kp_is_ladder, bd_is_ladder⟩ := c_is_ladder
  obtain ⟨f_ladder_text, fd_ladder_text, ok_ladder_text, mg_ladder_text, kp_ladder_text, bd_ladder_text⟩ := c_ladder_text
  obtain ⟨f_read_rung, fd_read_rung, ok_read_rung, mg_read_rung, kp_read_rung, bd_read_rung⟩ := c_read_rung
  refine ⟨f, fd, ?_, hm, F.kp, F.bindsN fun _ _ _ _ _ _ us hl => match us, hl with | [_], _ => rfl⟩
  have sc := sc_X_parse_ladder
  refine fn_X (toFun F) sc rfl fun cdv A outer s H E hr => ?_
  have hu := units64 hr
  have hu5 := units65 hr
  have hu1 := units1 hr
  exact (s_cons (s_if (c_not (c_val (d_isi rfl g.isinstance rfl g.str_ (by decide +kernel) (d_r (d_var (pv 0)))))) (s_one (s_raise rfl tkOf (EF.oe "InvalidText" (by decide +kernel)) rfl)) s_nil)
    (s_cons (s_asg (ps_set (i := 1) sc.nd rfl (Or.inl rfl) (d_frz (l_split (d_var (pv 0)) d_str))))
    (s_cons (s_asg (ps_set (i := 2) sc.nd rfl (Or.inl rfl) (d_tup (a_cons (d_call ok_number_of (hr.mono (by decide : 1 ≤ 4)) rfl mg_number_of kp_number_of bd_number_of (a_cons (d_ix ix_D (d_r (d_var (pv 1))) (d_r d_int) (fun _ _ => rfl)) a_nil)) (a_cons (d_callTy ct_tuple rfl g.tuple_ (by decide +kernel) (r_cons (d_r (d_frz (l_comp (own := [("part", 3)]) rfl sc.nd (i_seq (d_frz (l_split (d_ix ix_D (d_r (d_var (pv 1))) (d_r (d_un un_negD (d_r d_int))) (fun _ _ => rfl)) d_str))) (blkOk_by (own := [("part", 3)]) (N := ["text", "sides", "found", "part"]) (sc := defScope (top 30)) (by decide +kernel)) (fun _ _ _ _ _ => (g_name (pg_name (i := 3) sc.nd rfl (Or.inl rfl)))) (fun _ _ _ _ _ => t_yes) (fun _ _ _ _ _ => (d_call ok_read_rung (hr.mono (by decide : 3 ≤ 4)) rfl mg_read_rung kp_read_rung bd_read_rung (a_cons (d_var (pv 3)) a_nil))) (by decide)))) r_nil)) a_nil)))))
    (s_cons (s_if (PW.pt (c_or (c_not (c_val (d_call ok_is_ladder (hr.mono (by decide : 4 ≤ 4)) rfl mg_is_ladder kp_is_ladder bd_is_ladder (a_cons (d_var (pv 2)) a_nil)))) (c_or1 (c_cmp (op_neQ hu) (d_r (d_call ok_ladder_text (hr.mono (by decide : 3 ≤ 4)) rfl mg_ladder_text kp_ladder_text bd_ladder_text (a_cons (d_var (pv 2)) a_nil))) (d_r (d_var (pv 0))) (nomark _))))) (s_one (s_raise rfl tkOf (EF.oe "InvalidText" (by decide +kernel)) rfl)) s_nil)
    (s_one (s_ret (d_var (pv 2))))))))

end Sx

namespace Sx
open PySem PySem.Spec PyProof.Rows L2 Mx TL
theorem ra_txt : F__law_raises [.str "text"] = .ok (.tuple [.str "raised", .int 7]) := by kernel_rfl
theorem nm_txt : F__law_name "InvalidText" = .ok (.int 7) := by kernel_rfl
theorem in_txt : ("InvalidText" : Str) ∈ excN := by decide +kernel
theorem out_exc {a : Dt} (h : F_X_parse_ladder [a] = .exc "InvalidText") : F__law_outcome [.int 0, a] = .ok (.tuple [.str "raised", .int 7]) := by
  have hc : F__law_call [.int 0, a] = .exc "InvalidText" := by
    unfold F__law_call
    simp only [B__law_call]
    simp [h]
  have hn := nm_txt
  have hi := in_txt
  unfold F__law_outcome
  simp only [B__law_outcome]
  generalize ("InvalidText" : Str) = C at *
  simp [sTryC, hc, hi, eIsN, eCallN, hn]
theorem out_ret {a d : Dt} (h : F_X_parse_ladder [a] = .ok d) : F__law_outcome [.int 0, a] = .ok (.tuple [.str "returned", d]) := by
  have hc : F__law_call [.int 0, a] = .ok d := by
    unfold F__law_call
    simp only [B__law_call]
    simp [h]
  unfold F__law_outcome
  simp only [B__law_outcome]
  have hn : isNone .none = true := rfl
  simp [sTryC, hc, eIsN, hn]
theorem out_any {z : List Nat} (hz : z.length ≤ 900) (ha : Asc8 z) : (∃ l : Lad, l.Ok ∧ lTx l = z ∧ F__law_outcome [.int 0, .str (mkS z)] = .ok (.tuple [.str "returned", ld l])) ∨ F__law_outcome [.int 0, .str (mkS z)] = .ok (.tuple [.str "raised", .int 7]) := by
  rcases parse_any hz ha with ⟨l, k, e, h⟩ | h
  · exact .inl ⟨l, k, e, out_ret h⟩
  · exact .inr (out_exc h)
theorem bad_kind {d : Dt} (h : isiD "str" d = some (.bool false)) : F_X_parse_ladder [d] = .exc "InvalidText" := by
  unfold F_X_parse_ladder
  simp only [B_X_parse_ladder]
  simp [h]
def okT : Res Dt → Bool
  | .ok (.tuple [.str s, .int i]) => decide (s = "raised") && decide (i = 7)
  | _ => false
theorem okT_eq {r : Res Dt} (h : okT r = true) : r = .ok (.tuple [.str "raised", .int 7]) := by
  unfold okT at h
  split at h
  · simp only [Bool.and_eq_true, decide_eq_true_eq] at h
    rw [h.1, h.2]
  · cases h
def cbads : List Str := ["", " ", "1", "1:", "1: ", "1: s", "1: s 0", "1: s 0:0", "1: s 1:1", "1: f 0:1", "1: s 0:01", "1: s 0:1 ", "0: s 0:1", "6: s 0:1", "01: s 0:1", "1: s 0:1 up to 0:5", "1: s 0:1 up to", "1: s 0:1; f 0:1", "1:s 0:1", "2: s 1:1 0:1", "1: s 0:1,", "1: S 0:1", "1: s 0:1;s 0:1"]
theorem cbads_ok : (cbads.all fun z => okT (F__law_outcome [.int 0, .str z])) = true := by kernel_rfl
abbrev P61 (ns : List Int) (x2 x3 x4 x5 x6 x7 x8 x9 x10 : Option SV) : Sl := [some (.d (scD ns)), some .town, x2, x3, x4, x5, x6, x7, x8, x9, x10, none]
def signs : List (List Nat) := [[48], [49], [50], [51], [52], [53], [57], [58], [59], [32], [102], [115], [32, 48, 58, 49], [59, 32, 102, 32, 48, 58, 49], [32, 117, 112, 32, 116, 111], []]
theorem signs_eq : addD (.list (chrs "0123459:; fs")) (.list [.str " 0:1", .str "; f 0:1", .str " up to", .str ""]) = some (.list (signs.map fun w => PyData.str (mkS w))) := by kernel_rfl
theorem signs_list : listTL [.str "0123459:; fs"] = some (chrs "0123459:; fs") := by kernel_rfl
theorem signs_small : ∀ w ∈ signs, w.length ≤ 7 ∧ Asc8 w := by
  have h : (signs.all fun w => decide (w.length ≤ 7) && w.all fun c => decide (c < 1000)) = true := by decide
  intro w hw
  have := List.all_eq_true.mp h w hw
  simp only [Bool.and_eq_true, decide_eq_true_eq, List.all_eq_true] at this
  exact ⟨this.1, fun c hc => this.2 c hc⟩
def due61 : Dt := .tuple [.int 2, .tuple [.tuple [.str "fixed", .tuple [.tuple [.int 0, .int 100]]], .tuple [.str "shares", .tuple [.tuple [.int 0, .int 1], .tuple [.int 1, .int 3]], .tuple [.tuple [.int 0, .int 50]]]]]
theorem due_out : F__law_outcome [.int 0, .str "2: f 0:100; s 0:1 1:3 up to 0:50"] = .ok (.tuple [.str "returned", due61]) := by kernel_rfl
theorem due_eq : eqD (.tuple [.str "returned", due61]) (.tuple [.str "returned", due61]) = some (.bool true) := by kernel_rfl
section
variable {ns : List Int} {l : Lad}
theorem turn (hl : ns.length ≤ 63) (k : l.Ok) {m : Nat} {ws : List Dt} {x4 x5 x6 x7 x8 x9 x10 : Option SV} (t : Tn ns (m + 3) ws) :
    ∃ (ws' : List Dt) (y7 y8 y9 y10 : Option SV), Tn ns m ws' ∧ lB_law_1 (P61 ns (some (.d (ld l))) (some (.d (.str (mkS (lTx l))))) x4 x5 x6 x7 x8 x9 x10) (some ws) = .nx (P61 ns (some (.d (ld l))) (some (.d (.str (mkS (lTx l))))) x4 x5 x6 y7 y8 y9 y10) (some ws') := by
  have hll := lTx_len k
  have hal := asc_line (l := l)
  obtain ⟨a, ws1, e1, ha, t1⟩ := draw_ok (ns := ns) (L := (lTx l).length + 1) (m := m + 2) hl (by omega) (Nat.lt_of_le_of_lt (show (lTx l).length + 1 ≤ 1000 by omega) (by decide)) t
  rw [show (((lTx l).length + 1 : Nat) : Int) = ((lTx l).length : Int) + 1 by omega] at e1
  obtain ⟨v, ws2, e2, hv, t2⟩ := pick_ok (ns := ns) (k := true) (cs := signs.map fun w => PyData.str (mkS w)) (m := m + 1) hl (by decide) (by decide) t1
  have e2 : F__law_pick [scD ns, .list (signs.map fun w => PyData.str (mkS w))] ws1 = .ok (v, ws2) := e2
  obtain ⟨g, hg, rfl⟩ := List.mem_map.mp hv
  obtain ⟨hgl, hga⟩ := signs_small g hg
  obtain ⟨d, ws3, e3, hd, t3⟩ := draw_ok (ns := ns) (L := 2) (m := m) hl (by decide) (by decide) t2
  have e3 : F__law_draw [scD ns, .int 2] ws2 = .ok (iD d, ws3) := e3
  have hlen : lenD [.str (mkS (lTx l))] = some (.int ((lTx l).length : Int)) := by
    show (if (mkS (lTx l)).length ≤ 100000 then some (PyData.int ((mkS (lTx l)).length : Int)) else none) = _
    rw [mkS_len, if_pos (by omega)]
  have sl1 : sliceD (.str (mkS (lTx l))) none (some (a : Int)) = some (.str (mkS ((lTx l).take a))) := by
    show (if (mkS (lTx l)).length ≤ 100000 then some (PyData.str (cutS (mkS (lTx l)) none (some (a : Int)))) else none) = _
    rw [mkS_len, if_pos (by omega), cutS_take]
  have sl2 : sliceD (.str (mkS (lTx l))) (some ((a : Int) + (d : Int))) none = some (.str (mkS ((lTx l).drop (a + d)))) := by
    show (if (mkS (lTx l)).length ≤ 100000 then some (PyData.str (cutS (mkS (lTx l)) (some ((a : Int) + (d : Int))) none)) else none) = _
    rw [mkS_len, if_pos (by omega), show (a : Int) + (d : Int) = ((a + d : Nat) : Int) by omega, cutS_drop]
  have lt : ((lTx l).take a).length ≤ 420 := by rw [List.length_take]; omega
  have ldr : ((lTx l).drop (a + d)).length ≤ 420 := by rw [List.length_drop]; omega
  have a1 := add_str (a := (lTx l).take a) (b := g) (by omega)
  have a2 := add_str (a := (lTx l).take a ++ g) (b := (lTx l).drop (a + d)) (by rw [List.length_append]; omega)
  have hal2 : Asc8 ((lTx l).take a ++ g ++ (lTx l).drop (a + d)) := fun c hc => by
    rcases List.mem_append.mp hc with z | z
    · rcases List.mem_append.mp z with z | z
      · exact hal.take a c z
      · exact hga c z
    · exact hal.drop _ c z
  have hol : ((lTx l).take a ++ g ++ (lTx l).drop (a + d)).length ≤ 900 := by rw [List.length_append, List.length_append]; omega
  have s1 := signs_eq
  have s2 := signs_list
  have q1 : eqD (.str "returned") (.str "returned") = some (.bool true) := by kernel_rfl
  have q2 : eqD (.str "raised") (.str "returned") = some (.bool false) := by kernel_rfl
  have n7 : neD (.tuple [.str "raised", .int 7]) (.tuple [.str "raised", .int 7]) = some (.bool false) := raised 7
  have rt := ra_txt
  have it : isNotD (.bool true) (.bool true) = some (.bool false) := rfl
  generalize hO : (lTx l).take a ++ g ++ (lTx l).drop (a + d) = O at *
  rcases out_any hol hal2 with ⟨l', k', e', ho⟩ | ho
  · have il := is_ladder_true k'
    have ll := law_line_ok k'
    rw [e'] at ll
    have hne := ne_mk hal2 hal2
    rw [decide_eq_true rfl] at hne
    refine ⟨ws3, some (.d (iD a)), some (.d (.str (mkS g))), some (.d (.str (mkS O))), some (.d (.tuple [.str "returned", ld l'])), t3, ?_⟩
    generalize (signs.map fun w => PyData.str (mkS w)) = SG at *
    generalize chrs "0123459:; fs" = CH at *
    generalize mkS ((lTx l).take a ++ g) = T2 at *
    generalize mkS ((lTx l).take a) = T1 at *
    generalize mkS ((lTx l).drop (a + d)) = T3 at *
    generalize mkS (lTx l) = T at *
    generalize mkS O = TO at *
    generalize mkS g = TG at *
    generalize ld l' = L' at *
    generalize ld l = L at *
    simp [lB_law_1, P61, hlen, e1, s2, s1, e2, sl1, a1, e3, sl2, a2, ho, q1, il, it, ll, hne]
  · have hne : O ≠ lTx l := fun z => by
      have hb := out_ret (parse_back k)
      rw [z] at ho
      rw [hb] at ho
      injection ho with ho
      injection ho with ho
      injection ho with h1 h2
      injection h1 with h1
      exact absurd h1 (by decide +kernel)
    have heq := eq_mk hal2 hal
    rw [decide_eq_false hne] at heq
    refine ⟨ws3, some (.d (iD a)), some (.d (.str (mkS g))), some (.d (.str (mkS O))), some (.d (.tuple [.str "raised", .int 7])), t3, ?_⟩
    generalize (signs.map fun w => PyData.str (mkS w)) = SG at *
    generalize chrs "0123459:; fs" = CH at *
    generalize mkS ((lTx l).take a ++ g) = T2 at *
    generalize mkS ((lTx l).take a) = T1 at *
    generalize mkS ((lTx l).drop (a + d)) = T3 at *
    generalize mkS (lTx l) = T at *
    generalize mkS O = TO at *
    generalize mkS g = TG at *
    generalize ld l = L at *
    simp [lB_law_1, P61, hlen, e1, s2, s1, e2, sl1, a1, e3, sl2, a2, ho, q2, rt, n7, heq]
theorem loop (hl : ns.length ≤ 63) (k : l.Ok) {x5 x6 : Option SV} : ∀ (ks : List Nat) (m : Nat) (ws : List Dt) (x4 x7 x8 x9 x10 : Option SV), Tn ns (m + 3 * ks.length) ws →
    ∃ (ws' : List Dt) (y4 y7 y8 y9 y10 : Option SV), Tn ns m ws' ∧ fL (gN 4) lB_law_1 (ks.map iD) (P61 ns (some (.d (ld l))) (some (.d (.str (mkS (lTx l))))) x4 x5 x6 x7 x8 x9 x10) (some ws) = .nx (P61 ns (some (.d (ld l))) (some (.d (.str (mkS (lTx l))))) y4 x5 x6 y7 y8 y9 y10) (some ws')
  | [], m, ws, x4, x7, x8, x9, x10, t => ⟨ws, x4, x7, x8, x9, x10, t, rfl⟩
  | i :: ks, m, ws, x4, x7, x8, x9, x10, t => by
    obtain ⟨ws1, y7, y8, y9, y10, t1, e⟩ := turn (m := m + 3 * ks.length) hl k (x4 := some (.d (iD i))) (x5 := x5) (x6 := x6) (x7 := x7) (x8 := x8) (x9 := x9) (x10 := x10) (t.mono (by simp; omega))
    obtain ⟨ws', z4, z7, z8, z9, z10, t', ih⟩ := loop hl k (x5 := x5) (x6 := x6) ks m ws1 (some (.d (iD i))) y7 y8 y9 y10 t1
    refine ⟨ws', z4, z7, z8, z9, z10, t', ?_⟩
    rw [List.map_cons, fL_step (ρ1 := P61 ns (some (.d (ld l))) (some (.d (.str (mkS (lTx l))))) (some (.d (iD i))) x5 x6 x7 x8 x9 x10) rfl e]
    exact ih
theorem no_bads {ρ : Sl} {W : Tw} (h11 : 11 < ρ.length) : ∀ (ds : List Dt), (∀ d ∈ ds, F__law_outcome [.int 0, d] = .ok (.tuple [.str "raised", .int 7])) → cL (gN 11) cC_law_2 cE_law_2 ρ ds W = .ok ([], W)
  | [], _ => rfl
  | d :: ds, h => by
    have ih := no_bads (W := W) h11 ds fun q hq => h q (List.mem_cons_of_mem _ hq)
    have hd := h d List.mem_cons_self
    have rt := ra_txt
    have n7 : neD (.tuple [.str "raised", .int 7]) (.tuple [.str "raised", .int 7]) = some (.bool false) := raised 7
    unfold cL
    have e2 : gN 11 d ρ = some (ρ.set 11 (some (.d d))) := by simp [h11]
    rw [e2]
    simp only
    have e3 : cC_law_2 (ρ.set 11 (some (.d d))) W = .ok (false, W) := by
      simp [cC_law_2, h11, hd, rt, n7]
    rw [e3]
    simp [ih]
def b1 : List Dt := [.none, .int 5, .str "", .str " ", .str "1", .str "1:", .str "1: ", .str "1: s", .str "1: s 0", .str "1: s 0:0", .str "1: s 1:1", .str "1: f 0:1", .str "1: s 0:01"]
def b2 : List Dt := [.str "1: s 0:1 ", .str "0: s 0:1", .str "6: s 0:1", .str "01: s 0:1", .str "1: s 0:1 up to 0:5", .str "1: s 0:1 up to"]
def b3 (L T : Dt) : List Dt := [.str "1: s 0:1; f 0:1", .str "1:s 0:1", .str "2: s 1:1 0:1", .str "1: s 0:1,", .str "1: S 0:1", L, .list [T]]
def b4 (A B : Dt) : List Dt := [A, B, .bool true, .str "1: s 0:1;s 0:1"]
theorem bc {z : Str} (h : z ∈ cbads) : F__law_outcome [.int 0, .str z] = .ok (.tuple [.str "raised", .int 7]) := okT_eq (List.all_eq_true.mp cbads_ok z h)
theorem bads_all {L T A B : Dt} (hL : isiD "str" L = some (.bool false)) (hA : F__law_outcome [.int 0, A] = .ok (.tuple [.str "raised", .int 7])) (hB : F__law_outcome [.int 0, B] = .ok (.tuple [.str "raised", .int 7])) :
    ∀ d ∈ b1 ++ b2 ++ b3 L T ++ b4 A B, F__law_outcome [.int 0, d] = .ok (.tuple [.str "raised", .int 7]) := by
  have k : ∀ d, isiD "str" d = some (.bool false) → F__law_outcome [.int 0, d] = .ok (.tuple [.str "raised", .int 7]) := fun d h => out_exc (bad_kind h)
  have c : ∀ (d : Dt) (ds : List Dt), F__law_outcome [.int 0, d] = .ok (.tuple [.str "raised", .int 7]) → (∀ e ∈ ds, F__law_outcome [.int 0, e] = .ok (.tuple [.str "raised", .int 7])) → ∀ e ∈ d :: ds, F__law_outcome [.int 0, e] = .ok (.tuple [.str "raised", .int 7]) := fun d ds h1 h2 e he => by
    rcases List.mem_cons.mp he with z | z
    · rw [z]; exact h1
    · exact h2 e z
  have ap : ∀ (xs ys : List Dt), (∀ e ∈ xs, F__law_outcome [.int 0, e] = .ok (.tuple [.str "raised", .int 7])) → (∀ e ∈ ys, F__law_outcome [.int 0, e] = .ok (.tuple [.str "raised", .int 7])) → ∀ e ∈ xs ++ ys, F__law_outcome [.int 0, e] = .ok (.tuple [.str "raised", .int 7]) := fun xs ys h1 h2 e he => by
    rcases List.mem_append.mp he with z | z
    · exact h1 e z
    · exact h2 e z
  have nl : ∀ e ∈ ([] : List Dt), F__law_outcome [.int 0, e] = .ok (.tuple [.str "raised", .int 7]) := fun e he => by cases he
  refine ap _ _ (ap _ _ (ap _ _ ?_ ?_) ?_) ?_
  · refine c _ _ (k _ rfl) (c _ _ (k _ rfl) ?_)
    repeat' (first | exact nl | (refine c _ _ (bc (by decide +kernel)) ?_))
  · repeat' (first | exact nl | (refine c _ _ (bc (by decide +kernel)) ?_))
  · refine c _ _ (bc (by decide +kernel)) (c _ _ (bc (by decide +kernel)) (c _ _ (bc (by decide +kernel)) (c _ _ (bc (by decide +kernel)) (c _ _ (bc (by decide +kernel)) (c _ _ (k _ hL) (c _ _ (k _ rfl) nl))))))
  · exact c _ _ hA (c _ _ hB (c _ _ (k _ rfl) (c _ _ (bc (by decide +kernel)) nl)))
theorem st_last {f : List Dt → Res Dt} {S : Str} {U R : Dt} {ρ : Sl} {W : Tw} (h6 : ρ[6]? = some (some (.d U))) (od : f [.int 0, .str S] = .ok (.tuple [.str "returned", U])) (oe : eqD (.tuple [.str "returned", U]) (.tuple [.str "returned", U]) = some (.bool true)) :
    sRet (eBin eqD (eCall 2 f (aCons (eC (.int 0)) (aCons (eC (.str S)) aNil))) (eTup (aCons (eC (.str "returned")) (aCons (eVar 6) aNil)))) ρ W = .rt (.d (.bool true)) W := by
  simp [h6, od, oe]
theorem st_b2 {ns : List Int} {L T : Dt} {x5 : List Dt} {x4 x7 x8 x9 x10 : Option SV} {W : Tw} {B2 : List Dt} {w : SA} (hb : B2.length ≤ 100000) (hw : ∀ ρ : Sl, ρ[2]? = some (some (.d L)) → ρ[3]? = some (some (.d T)) → w ρ W = .ok (B2, W)) (d1 : addD (.list x5) (.list B2) = some (.list (x5 ++ B2))) :
    sAsg 5 (eBin addD (eVar 5) (eFrz (lLst w))) (P61 ns (some (.d L)) (some (.d T)) x4 (some (.d (.list x5))) none x7 x8 x9 x10) W = .nx (P61 ns (some (.d L)) (some (.d T)) x4 (some (.d (.list (x5 ++ B2)))) none x7 x8 x9 x10) W := by
  simp only [P61] at *
  simp [hw, d1, hb]
theorem st_cmp {ns : List Int} {L T : Dt} {B1 : List Dt} {x4 x7 x8 x9 x10 : Option SV} {W : Tw} {cC : SB} {cE : SE} (hb : B1.length ≤ 100000)
    (nb : cL (gN 11) cC cE (P61 ns (some (.d L)) (some (.d T)) x4 (some (.d (.list B1))) none x7 x8 x9 x10) B1 W = .ok ([], W)) :
    sIf (bOf (eBin neD (eFrz (lComp (iSeq (eVar 5)) (gN 11) cC cE [11])) (eFrz (lLst aNil)))) (sRet (eC (.bool false))) sPass (P61 ns (some (.d L)) (some (.d T)) x4 (some (.d (.list B1))) none x7 x8 x9 x10) W = .nx (P61 ns (some (.d L)) (some (.d T)) x4 (some (.d (.list B1))) none x7 x8 x9 x10) W := by
  have nn : neD (.list []) (.list []) = some (.bool false) := by kernel_rfl
  simp only [P61] at nb
  simp [P61, wipeOk, nb, nn, hb]
theorem bads_len {L T A B : Dt} : (b1 ++ b2 ++ b3 L T ++ b4 A B).length ≤ 100000 := by
  simp [b1, b2, b3, b4]
theorem law_true (ns : List Int) (hl : ns.length ≤ 63) : F_law [.list (ns.map PyData.int)] = .ok (.bool true) := by
  obtain ⟨l, ws1, e1, k, hn5, t1⟩ := ladder_ok (ns := ns) (most := 5) (m := 500000) hl (by decide) (by decide) ((Tn.start ns).mono (by decide))
  have e0 := town_ok ns hl
  have e1 : F__law_ladder [scD ns, .int 5] (.int 0 :: ns.map PyData.int) = .ok (ld l, ws1) := e1
  have ll := law_line_ok k
  have fl := format_ladder_ok k
  have ob := out_ret (parse_back k)
  have hll := lTx_len k
  have hal := asc_line (l := l)
  have hr10 : rngOf [.int 10] = some ((List.range 10).map iD) := rngOf_n (n := 10) (by decide)
  obtain ⟨ws2, y4, y7, y8, y9, y10, t2, lw⟩ := loop (ns := ns) (l := l) (x5 := none) (x6 := none) hl k (List.range 10) 1000 ws1 none none none none none (t1.mono (by simp))
  have hA : F__law_outcome [.int 0, .str (mkS (lTx l ++ [32]))] = .ok (.tuple [.str "raised", .int 7]) := by
    rcases out_any (z := lTx l ++ [32]) (by rw [List.length_append]; simp; omega) (fun c hc => by
      rcases List.mem_append.mp hc with z | z
      · exact hal c z
      · rw [List.mem_singleton.mp z]; decide) with ⟨l', k', e', _⟩ | h
    · exact absurd e' (no_end k' _)
    · exact h
  have hB : F__law_outcome [.int 0, .str (mkS ([32] ++ lTx l))] = .ok (.tuple [.str "raised", .int 7]) := by
    rcases out_any (z := [32] ++ lTx l) (by rw [List.length_append]; simp; omega) (fun c hc => by
      rcases List.mem_append.mp hc with z | z
      · rw [List.mem_singleton.mp z]; decide
      · exact hal c z) with ⟨l', k', e', _⟩ | h
    · exact absurd e' (no_start _)
    · exact h
  have hbads := bads_all (L := ld l) (T := .str (mkS (lTx l))) rfl hA hB
  have aA : addD (.str (mkS (lTx l))) (.str " ") = some (.str (mkS (lTx l ++ [32]))) := by
    have h := add_str (a := lTx l) (b := [32]) (by simp; omega)
    rw [show mkS [32] = " " from by kernel_rfl] at h
    exact h
  have aB : addD (.str " ") (.str (mkS (lTx l))) = some (.str (mkS ([32] ++ lTx l))) := by
    have h := add_str (a := [32]) (b := lTx l) (by simp; omega)
    rw [show mkS [32] = " " from by kernel_rfl] at h
    exact h
  have nf : neD (.str (mkS (lTx l))) (.str (mkS (lTx l))) = some (.bool false) := by
    have h := ne_mk hal hal
    rw [decide_eq_true rfl] at h
    exact h
  have nr : neD (.tuple [.str "returned", ld l]) (.tuple [.str "returned", ld l]) = some (.bool false) := Gq.ne (k := 6) (.tup (.cons ⟨by decide +kernel, Nat.zero_le _, by decide +kernel⟩ (.cons .ld .nil))) (by decide)
  have nn : neD (.list []) (.list []) = some (.bool false) := by kernel_rfl
  have ad : ∀ (xs ys : List Dt), xs.length + ys.length ≤ 100000 → addD (.list xs) (.list ys) = some (.list (xs ++ ys)) := fun xs ys h => by
    show (if xs.length + ys.length ≤ 100000 then some (PyData.list (xs ++ ys)) else none) = _
    rw [if_pos h]
  have d1 := ad b1 b2 (by decide)
  have d2 := ad (b1 ++ b2) (b3 (ld l) (.str (mkS (lTx l)))) (by show 19 + 7 ≤ 100000; decide)
  have d3 := ad (b1 ++ b2 ++ b3 (ld l) (.str (mkS (lTx l)))) (b4 (.str (mkS (lTx l ++ [32]))) (.str (mkS ([32] ++ lTx l)))) (by show 26 + 4 ≤ 100000; decide)
  refine runP_ex (B := B_law) (m := 12) (ds := [scD ns]) ?_
  unfold B_law
  generalize hLn : mkS (lTx l) = T at *
  generalize mkS (lTx l ++ [32]) = TA at *
  generalize mkS ([32] ++ lTx l) = TB at *
  generalize ld l = L at *
  refine sSeq_ex (ρ1 := P61 ns none none none none none none none none none) (W1 := some (.int 0 :: ns.map PyData.int)) (by simp [e0, P61]) ?_
  refine sSeq_ex (ρ1 := P61 ns (some (.d L)) none none none none none none none none) (W1 := some ws1) (by simp [e1, P61]) ?_
  refine sSeq_ex (ρ1 := P61 ns (some (.d L)) (some (.d (.str T))) none none none none none none none) (W1 := some ws1) (by simp [ll, P61]) ?_
  refine sSeq_ex (ρ1 := P61 ns (some (.d L)) (some (.d (.str T))) none none none none none none none) (W1 := some ws1) (by simp [fl, nf, ob, nr, P61]) ?_
  simp only [P61] at lw
  refine sSeq_ex (ρ1 := P61 ns (some (.d L)) (some (.d (.str T))) y4 none none y7 y8 y9 y10) (W1 := some ws2) (by
    generalize (List.range 10).map iD = R10 at *
    simp [P61, hr10, lw]) ?_
  refine sSeq_ex (ρ1 := P61 ns (some (.d L)) (some (.d (.str T))) y4 (some (.d (.list b1))) none y7 y8 y9 y10) (W1 := some ws2) (by
    simp [P61, b1]) ?_
  refine sSeq_ex (ρ1 := P61 ns (some (.d L)) (some (.d (.str T))) y4 (some (.d (.list (b1 ++ b2)))) none y7 y8 y9 y10) (W1 := some ws2) (st_b2 (by show (6 : Nat) ≤ 100000; decide) (fun ρ h2 h3 => by simp [b2]) d1) ?_
  refine sSeq_ex (ρ1 := P61 ns (some (.d L)) (some (.d (.str T))) y4 (some (.d (.list (b1 ++ b2 ++ b3 L (.str T))))) none y7 y8 y9 y10) (W1 := some ws2) (st_b2 (by show (7 : Nat) ≤ 100000; decide) (fun ρ h2 h3 => by simp [b3, h2, h3]) d2) ?_
  refine sSeq_ex (ρ1 := P61 ns (some (.d L)) (some (.d (.str T))) y4 (some (.d (.list (b1 ++ b2 ++ b3 L (.str T) ++ b4 (.str TA) (.str TB))))) none y7 y8 y9 y10) (W1 := some ws2) (st_b2 (by show (4 : Nat) ≤ 100000; decide) (fun ρ h2 h3 => by simp [b4, h2, h3, aA, aB]) d3) ?_
  refine sSeq_ex (ρ1 := P61 ns (some (.d L)) (some (.d (.str T))) y4 (some (.d (.list (b1 ++ b2 ++ b3 L (.str T) ++ b4 (.str TA) (.str TB))))) none y7 y8 y9 y10) (W1 := some ws2) (st_cmp bads_len (no_bads (by show 11 < 12; decide) _ hbads)) ?_
  refine sSeq_ex (ρ1 := P61 ns (some (.d L)) (some (.d (.str T))) y4 (some (.d (.list (b1 ++ b2 ++ b3 L (.str T) ++ b4 (.str TA) (.str TB))))) (some (.d due61)) y7 y8 y9 y10) (W1 := some ws2) (by
    generalize b1 ++ b2 ++ b3 L (.str T) ++ b4 (.str TA) (.str TB) = B1 at *
    simp [P61, due61]) ?_
  refine ⟨some ws2, ?_⟩
  exact st_last (R := due61) (U := due61) rfl due_out due_eq
end
end Sx

namespace Sx
open PySem PySem.Spec PyProof.Rows L2

abbrev R : PySem.W.OpenRow := PySem.W.OpenLaw.row PySem.Challenge.rw_payladders_k61_whole_texts
def dd_is_between : He.DefD := ⟨("is_between", none), "is_between", "is_between", defArgs (top 16), defBody (top 16), defScope (top 16), [], []⟩
def dd_are_pairs : He.DefD := ⟨("are_pairs", none), "are_pairs", "are_pairs", defArgs (top 17), defBody (top 17), defScope (top 17), [], []⟩
def dd_is_rung : He.DefD := ⟨("is_rung", none), "is_rung", "is_rung", defArgs (top 18), defBody (top 18), defScope (top 18), [], []⟩
def dd_is_endless : He.DefD := ⟨("is_endless", none), "is_endless", "is_endless", defArgs (top 19), defBody (top 19), defScope (top 19), [], []⟩
def dd_is_ladder : He.DefD := ⟨("is_ladder", none), "is_ladder", "is_ladder", defArgs (top 20), defBody (top 20), defScope (top 20), [], []⟩
def dd_check_ladder : He.DefD := ⟨("check_ladder", none), "check_ladder", "check_ladder", defArgs (top 21), defBody (top 21), defScope (top 21), [], []⟩
def dd_pairs_text : He.DefD := ⟨("pairs_text", none), "pairs_text", "pairs_text", defArgs (top 23), defBody (top 23), defScope (top 23), [], []⟩
def dd_rung_text : He.DefD := ⟨("rung_text", none), "rung_text", "rung_text", defArgs (top 24), defBody (top 24), defScope (top 24), [], []⟩
def dd_ladder_text : He.DefD := ⟨("ladder_text", none), "ladder_text", "ladder_text", defArgs (top 25), defBody (top 25), defScope (top 25), [], []⟩
def dd_format_ladder : He.DefD := ⟨("format_ladder", none), "format_ladder", "format_ladder", defArgs (top 26), defBody (top 26), defScope (top 26), [], []⟩
def dd_number_of : He.DefD := ⟨("number_of", none), "number_of", "number_of", defArgs (top 27), defBody (top 27), defScope (top 27), [], []⟩
def dd_read_pairs : He.DefD := ⟨("read_pairs", none), "read_pairs", "read_pairs", defArgs (top 28), defBody (top 28), defScope (top 28), [], []⟩
def dd_read_rung : He.DefD := ⟨("read_rung", none), "read_rung", "read_rung", defArgs (top 29), defBody (top 29), defScope (top 29), [], []⟩
def dd_parse_ladder : He.DefD := ⟨("parse_ladder", none), "parse_ladder", "parse_ladder", defArgs (top 30), defBody (top 30), defScope (top 30), [], []⟩
def dd__law_town : He.DefD := ⟨("_law_town", none), "_law_town", "_law_town", defArgs (top 32), defBody (top 32), defScope (top 32), [], []⟩
def dd__law_draw : He.DefD := ⟨("_law_draw", none), "_law_draw", "_law_draw", defArgs (top 33), defBody (top 33), defScope (top 33), [], []⟩
def dd__law_pick : He.DefD := ⟨("_law_pick", none), "_law_pick", "_law_pick", defArgs (top 34), defBody (top 34), defScope (top 34), [], []⟩
def dd__law_outcome : He.DefD := ⟨("_law_outcome", none), "_law_outcome", "_law_outcome", defArgs (top 35), defBody (top 35), defScope (top 35), [], []⟩
def dd__law_name : He.DefD := ⟨("_law_name", none), "_law_name", "_law_name", defArgs (top 36), defBody (top 36), defScope (top 36), [], []⟩
def dd__law_raises : He.DefD := ⟨("_law_raises", none), "_law_raises", "_law_raises", defArgs (top 37), defBody (top 37), defScope (top 37), [], []⟩
def dd__law_pairs : He.DefD := ⟨("_law_pairs", none), "_law_pairs", "_law_pairs", defArgs (top 38), defBody (top 38), defScope (top 38), [], []⟩
def dd__law_rung : He.DefD := ⟨("_law_rung", none), "_law_rung", "_law_rung", defArgs (top 39), defBody (top 39), defScope (top 39), [], []⟩
def dd__law_ladder : He.DefD := ⟨("_law_ladder", none), "_law_ladder", "_law_ladder", defArgs (top 40), defBody (top 40), defScope (top 40), [], []⟩
def dd__law_call : He.DefD := ⟨("_law_call", none), "_law_call", "_law_call", defArgs (top 41), defBody (top 41), defScope (top 41), [], []⟩
def dd__law_row : He.DefD := ⟨("_law_row", none), "_law_row", "_law_row", defArgs (top 42), defBody (top 42), defScope (top 42), [], []⟩
def dd__law_line : He.DefD := ⟨("_law_line", none), "_law_line", "_law_line", defArgs (top 43), defBody (top 43), defScope (top 43), [], []⟩
def dd_law : He.DefD := ⟨("law", none), "law", "law", defArgs (top 44), defBody (top 44), defScope (top 44), [], []⟩
def fn : List He.DefD := [dd_is_between, dd_are_pairs, dd_is_rung, dd_is_endless, dd_is_ladder, dd_check_ladder, dd_pairs_text, dd_rung_text, dd_ladder_text, dd_format_ladder, dd_number_of, dd_read_pairs, dd_read_rung, dd_parse_ladder, dd__law_town, dd__law_draw, dd__law_pick, dd__law_outcome, dd__law_name, dd__law_raises, dd__law_pairs, dd__law_rung, dd__law_ladder, dd__law_call, dd__law_row, dd__law_line, dd_law]
def fa0 : List He.Fa := [.glo "is_between", .glo "are_pairs", .glo "is_rung", .glo "is_endless", .glo "is_ladder", .glo "check_ladder", .glo "pairs_text", .glo "rung_text", .glo "ladder_text", .glo "format_ladder", .glo "number_of", .glo "read_pairs", .glo "read_rung", .glo "parse_ladder", .glo "_law_town", .glo "_law_draw", .glo "_law_pick", .glo "_law_outcome", .glo "_law_name", .glo "_law_raises", .glo "_law_pairs", .glo "_law_rung", .glo "_law_ladder", .glo "_law_call", .glo "_law_row", .glo "_law_line", .glo "law", .free "len", .free "sum", .free "all"]
def fa1 : List He.Fa := [.free "any", .free "tuple", .free "list", .free "abs", .free "int", .free "str", .free "bool", .free "max", .free "min", .free "dict", .free "range", .free "enumerate", .free "zip", .free "sorted", .free "isinstance", .glo "InvalidLadder", .glo "InvalidHolder", .glo "InvalidAmount", .glo "InvalidNumber", .glo "InvalidGoal", .glo "InvalidOptions", .glo "InvalidChoice", .glo "InvalidText", .glo "Unlike", .glo "NotSimple", .glo "TooMany", .glo "TooMuch", .glo "NothingToUndo", .glo "LadderError", .free "ValueError"]
def fa : List He.Fa := fa0 ++ fa1
def loose0 : List Str := ["__name__", "LadderError", "InvalidLadder", "InvalidHolder", "InvalidAmount", "InvalidNumber", "InvalidGoal", "InvalidOptions", "InvalidChoice", "InvalidText", "Unlike", "NotSimple", "TooMany", "TooMuch", "NothingToUndo", "is_between", "are_pairs", "is_rung", "is_endless", "is_ladder", "check_ladder", "pairs_text", "rung_text", "ladder_text", "format_ladder", "number_of", "read_pairs", "read_rung", "parse_ladder", "_law_town"]
def loose1 : List Str := ["_law_draw", "_law_pick", "_law_outcome", "_law_name", "_law_raises", "_law_pairs", "_law_rung", "_law_ladder", "_law_call", "_law_row", "_law_line"]
def loose : List Str := loose0 ++ loose1
abbrev hk : PySem.W.Hook := He.hookX 4 fa fn [] [] (exL0 exE)
def ob (s : PySem.W.SharedT) : He.AlX := He.obsX 4 fa fn [] [] (exL0 exE) (HandSHeadRun.getT s)
theorem ob_eq (s : PySem.W.SharedT) : ob s = hk.obs s.abs := He.obsX_eq (HandSHeadRun.getT_eq s)
theorem run (w : World) : HandSHeadRun.RunEq R (PySem.W.view R.prog [44]) hk ob 8000 loose w := by
  intro os
  kernel_rfl
theorem facts {P : Program} {w : World} {K : PySem.W.Frag} {h : Heap} {mg : Str → Option Value} {f : Addr} (KX : K.In h) (G : h.Ns mainGlobals mg) (hfa : mg ("law" : Str) = some (.ref f)) (c : He.SaysX fa fn [] [] (exL0 exE) w h K) :
    ∃ fd : FuncData, (∀ (s : Shared) (v : Value), BindsTo s fd ⟨[v], []⟩ [("script", v)]) ∧ ∀ base : Heap, K.In base → base.Ns mainGlobals mg → FnOk P w K mg base CX0 8 f fd ["script"] (spP K 1 F_law) := by
  have cT := c.t
  have cD : He.SaysD fa fn K := cT.d
  have F_0 : ∃ f fd, FnP K "is_between" (top 16) f fd ∧ mg "is_between" = some (.ref f) := by
    obtain ⟨fd, F⟩ := cD.def_ 0 (d := dd_is_between) rfl
    exact ⟨_, fd, F, He.glo_ok KX G (cD.fact 0 (f := .glo "is_between") rfl)⟩
  have F_1 : ∃ f fd, FnP K "are_pairs" (top 17) f fd ∧ mg "are_pairs" = some (.ref f) := by
    obtain ⟨fd, F⟩ := cD.def_ 1 (d := dd_are_pairs) rfl
    exact ⟨_, fd, F, He.glo_ok KX G (cD.fact 1 (f := .glo "are_pairs") rfl)⟩
  have F_2 : ∃ f fd, FnP K "is_rung" (top 18) f fd ∧ mg "is_rung" = some (.ref f) := by
    obtain ⟨fd, F⟩ := cD.def_ 2 (d := dd_is_rung) rfl
    exact ⟨_, fd, F, He.glo_ok KX G (cD.fact 2 (f := .glo "is_rung") rfl)⟩
  have F_3 : ∃ f fd, FnP K "is_endless" (top 19) f fd ∧ mg "is_endless" = some (.ref f) := by
    obtain ⟨fd, F⟩ := cD.def_ 3 (d := dd_is_endless) rfl
    exact ⟨_, fd, F, He.glo_ok KX G (cD.fact 3 (f := .glo "is_endless") rfl)⟩
  have F_4 : ∃ f fd, FnP K "is_ladder" (top 20) f fd ∧ mg "is_ladder" = some (.ref f) := by
    obtain ⟨fd, F⟩ := cD.def_ 4 (d := dd_is_ladder) rfl
    exact ⟨_, fd, F, He.glo_ok KX G (cD.fact 4 (f := .glo "is_ladder") rfl)⟩
  have F_5 : ∃ f fd, FnP K "check_ladder" (top 21) f fd ∧ mg "check_ladder" = some (.ref f) := by
    obtain ⟨fd, F⟩ := cD.def_ 5 (d := dd_check_ladder) rfl
    exact ⟨_, fd, F, He.glo_ok KX G (cD.fact 5 (f := .glo "check_ladder") rfl)⟩
  have F_6 : ∃ f fd, FnP K "pairs_text" (top 23) f fd ∧ mg "pairs_text" = some (.ref f) := by
    obtain ⟨fd, F⟩ := cD.def_ 6 (d := dd_pairs_text) rfl
    exact ⟨_, fd, F, He.glo_ok KX G (cD.fact 6 (f := .glo "pairs_text") rfl)⟩
  have F_7 : ∃ f fd, FnP K "rung_text" (top 24) f fd ∧ mg "rung_text" = some (.ref f) := by
    obtain ⟨fd, F⟩ := cD.def_ 7 (d := dd_rung_text) rfl
    exact ⟨_, fd, F, He.glo_ok KX G (cD.fact 7 (f := .glo "rung_text") rfl)⟩
  have F_8 : ∃ f fd, FnP K "ladder_text" (top 25) f fd ∧ mg "ladder_text" = some (.ref f) := by
    obtain ⟨fd, F⟩ := cD.def_ 8 (d := dd_ladder_text) rfl
    exact ⟨_, fd, F, He.glo_ok KX G (cD.fact 8 (f := .glo "ladder_text") rfl)⟩
  have F_9 : ∃ f fd, FnP K "format_ladder" (top 26) f fd ∧ mg "format_ladder" = some (.ref f) := by
    obtain ⟨fd, F⟩ := cD.def_ 9 (d := dd_format_ladder) rfl
    exact ⟨_, fd, F, He.glo_ok KX G (cD.fact 9 (f := .glo "format_ladder") rfl)⟩
  have F_10 : ∃ f fd, FnP K "number_of" (top 27) f fd ∧ mg "number_of" = some (.ref f) := by
    obtain ⟨fd, F⟩ := cD.def_ 10 (d := dd_number_of) rfl
    exact ⟨_, fd, F, He.glo_ok KX G (cD.fact 10 (f := .glo "number_of") rfl)⟩
  have F_11 : ∃ f fd, FnP K "read_pairs" (top 28) f fd ∧ mg "read_pairs" = some (.ref f) := by
    obtain ⟨fd, F⟩ := cD.def_ 11 (d := dd_read_pairs) rfl
    exact ⟨_, fd, F, He.glo_ok KX G (cD.fact 11 (f := .glo "read_pairs") rfl)⟩
  have F_12 : ∃ f fd, FnP K "read_rung" (top 29) f fd ∧ mg "read_rung" = some (.ref f) := by
    obtain ⟨fd, F⟩ := cD.def_ 12 (d := dd_read_rung) rfl
    exact ⟨_, fd, F, He.glo_ok KX G (cD.fact 12 (f := .glo "read_rung") rfl)⟩
  have F_13 : ∃ f fd, FnP K "parse_ladder" (top 30) f fd ∧ mg "parse_ladder" = some (.ref f) := by
    obtain ⟨fd, F⟩ := cD.def_ 13 (d := dd_parse_ladder) rfl
    exact ⟨_, fd, F, He.glo_ok KX G (cD.fact 13 (f := .glo "parse_ladder") rfl)⟩
  have F_14 : ∃ f fd, FnP K "_law_town" (top 32) f fd ∧ mg "_law_town" = some (.ref f) := by
    obtain ⟨fd, F⟩ := cD.def_ 14 (d := dd__law_town) rfl
    exact ⟨_, fd, F, He.glo_ok KX G (cD.fact 14 (f := .glo "_law_town") rfl)⟩
  have F_15 : ∃ f fd, FnP K "_law_draw" (top 33) f fd ∧ mg "_law_draw" = some (.ref f) := by
    obtain ⟨fd, F⟩ := cD.def_ 15 (d := dd__law_draw) rfl
    exact ⟨_, fd, F, He.glo_ok KX G (cD.fact 15 (f := .glo "_law_draw") rfl)⟩
  have F_16 : ∃ f fd, FnP K "_law_pick" (top 34) f fd ∧ mg "_law_pick" = some (.ref f) := by
    obtain ⟨fd, F⟩ := cD.def_ 16 (d := dd__law_pick) rfl
    exact ⟨_, fd, F, He.glo_ok KX G (cD.fact 16 (f := .glo "_law_pick") rfl)⟩
  have F_17 : ∃ f fd, FnP K "_law_outcome" (top 35) f fd ∧ mg "_law_outcome" = some (.ref f) := by
    obtain ⟨fd, F⟩ := cD.def_ 17 (d := dd__law_outcome) rfl
    exact ⟨_, fd, F, He.glo_ok KX G (cD.fact 17 (f := .glo "_law_outcome") rfl)⟩
  have F_18 : ∃ f fd, FnP K "_law_name" (top 36) f fd ∧ mg "_law_name" = some (.ref f) := by
    obtain ⟨fd, F⟩ := cD.def_ 18 (d := dd__law_name) rfl
    exact ⟨_, fd, F, He.glo_ok KX G (cD.fact 18 (f := .glo "_law_name") rfl)⟩
  have F_19 : ∃ f fd, FnP K "_law_raises" (top 37) f fd ∧ mg "_law_raises" = some (.ref f) := by
    obtain ⟨fd, F⟩ := cD.def_ 19 (d := dd__law_raises) rfl
    exact ⟨_, fd, F, He.glo_ok KX G (cD.fact 19 (f := .glo "_law_raises") rfl)⟩
  have F_20 : ∃ f fd, FnP K "_law_pairs" (top 38) f fd ∧ mg "_law_pairs" = some (.ref f) := by
    obtain ⟨fd, F⟩ := cD.def_ 20 (d := dd__law_pairs) rfl
    exact ⟨_, fd, F, He.glo_ok KX G (cD.fact 20 (f := .glo "_law_pairs") rfl)⟩
  have F_21 : ∃ f fd, FnP K "_law_rung" (top 39) f fd ∧ mg "_law_rung" = some (.ref f) := by
    obtain ⟨fd, F⟩ := cD.def_ 21 (d := dd__law_rung) rfl
    exact ⟨_, fd, F, He.glo_ok KX G (cD.fact 21 (f := .glo "_law_rung") rfl)⟩
  have F_22 : ∃ f fd, FnP K "_law_ladder" (top 40) f fd ∧ mg "_law_ladder" = some (.ref f) := by
    obtain ⟨fd, F⟩ := cD.def_ 22 (d := dd__law_ladder) rfl
    exact ⟨_, fd, F, He.glo_ok KX G (cD.fact 22 (f := .glo "_law_ladder") rfl)⟩
  have F_23 : ∃ f fd, FnP K "_law_call" (top 41) f fd ∧ mg "_law_call" = some (.ref f) := by
    obtain ⟨fd, F⟩ := cD.def_ 23 (d := dd__law_call) rfl
    exact ⟨_, fd, F, He.glo_ok KX G (cD.fact 23 (f := .glo "_law_call") rfl)⟩
  have F_24 : ∃ f fd, FnP K "_law_row" (top 42) f fd ∧ mg "_law_row" = some (.ref f) := by
    obtain ⟨fd, F⟩ := cD.def_ 24 (d := dd__law_row) rfl
    exact ⟨_, fd, F, He.glo_ok KX G (cD.fact 24 (f := .glo "_law_row") rfl)⟩
  have F_25 : ∃ f fd, FnP K "_law_line" (top 43) f fd ∧ mg "_law_line" = some (.ref f) := by
    obtain ⟨fd, F⟩ := cD.def_ 25 (d := dd__law_line) rfl
    exact ⟨_, fd, F, He.glo_ok KX G (cD.fact 25 (f := .glo "_law_line") rfl)⟩
  have F_26 : ∃ f fd, FnP K "law" (top 44) f fd ∧ mg "law" = some (.ref f) := by
    obtain ⟨fd, F⟩ := cD.def_ 26 (d := dd_law) rfl
    exact ⟨_, fd, F, He.glo_ok KX G (cD.fact 26 (f := .glo "law") rfl)⟩
  have g : Glob K mg := ⟨He.free_ok KX G (cD.fact 27 (f := .free "len") rfl), He.free_ok KX G (cD.fact 28 (f := .free "sum") rfl), He.free_ok KX G (cD.fact 29 (f := .free "all") rfl), He.free_ok KX G (cD.fact 30 (f := .free "any") rfl), He.free_ok KX G (cD.fact 31 (f := .free "tuple") rfl), He.free_ok KX G (cD.fact 32 (f := .free "list") rfl), He.free_ok KX G (cD.fact 33 (f := .free "abs") rfl), He.free_ok KX G (cD.fact 34 (f := .free "int") rfl), He.free_ok KX G (cD.fact 35 (f := .free "str") rfl), He.free_ok KX G (cD.fact 36 (f := .free "bool") rfl), He.free_ok KX G (cD.fact 37 (f := .free "max") rfl), He.free_ok KX G (cD.fact 38 (f := .free "min") rfl), He.free_ok KX G (cD.fact 39 (f := .free "dict") rfl), He.free_ok KX G (cD.fact 40 (f := .free "range") rfl), He.free_ok KX G (cD.fact 41 (f := .free "enumerate") rfl), He.free_ok KX G (cD.fact 42 (f := .free "zip") rfl), He.free_ok KX G (cD.fact 43 (f := .free "sorted") rfl), He.free_ok KX G (cD.fact 44 (f := .free "isinstance") rfl)⟩
  have EF : ExF K mg := by
    refine exE_ok ((exL0_ex c.more)) (fun c hc => ?_) (He.glo_ok KX G (cD.fact 58 (f := .glo "LadderError") rfl))
    simp only [excN, List.mem_cons, List.mem_nil_iff, or_false] at hc
    rcases hc with rfl | rfl | rfl | rfl | rfl | rfl | rfl | rfl | rfl | rfl | rfl | rfl | rfl
    · exact He.glo_ok KX G (cD.fact 45 (f := .glo "InvalidLadder") rfl)
    · exact He.glo_ok KX G (cD.fact 46 (f := .glo "InvalidHolder") rfl)
    · exact He.glo_ok KX G (cD.fact 47 (f := .glo "InvalidAmount") rfl)
    · exact He.glo_ok KX G (cD.fact 48 (f := .glo "InvalidNumber") rfl)
    · exact He.glo_ok KX G (cD.fact 49 (f := .glo "InvalidGoal") rfl)
    · exact He.glo_ok KX G (cD.fact 50 (f := .glo "InvalidOptions") rfl)
    · exact He.glo_ok KX G (cD.fact 51 (f := .glo "InvalidChoice") rfl)
    · exact He.glo_ok KX G (cD.fact 52 (f := .glo "InvalidText") rfl)
    · exact He.glo_ok KX G (cD.fact 53 (f := .glo "Unlike") rfl)
    · exact He.glo_ok KX G (cD.fact 54 (f := .glo "NotSimple") rfl)
    · exact He.glo_ok KX G (cD.fact 55 (f := .glo "TooMany") rfl)
    · exact He.glo_ok KX G (cD.fact 56 (f := .glo "TooMuch") rfl)
    · exact He.glo_ok KX G (cD.fact 57 (f := .glo "NothingToUndo") rfl)
  have gVE : mg "ValueError" = none := He.free_ok KX G (cD.fact 59 (f := .free "ValueError") rfl)
  obtain ⟨fl, fdl, Fl, hml⟩ := F_26
  have e := hfa.symm.trans hml
  cases e
  have b := FunD.bindsA (ps := ["script"]) Fl fun _ _ _ _ _ _ us hl => match us, hl with | [_], _ => rfl
  refine ⟨fdl, fun s v => b s [v] rfl, fun base _ _ => ?_⟩
  have c_is_between := cal_is_between (P := P) (w := w) (base := base) g F_0 
  have c_is_endless := cal_is_endless (P := P) (w := w) (base := base) g F_3 
  have c_pairs_text := cal_pairs_text (P := P) (w := w) (base := base) g F_6 
  have c_number_of := cal_number_of (P := P) (w := w) (base := base) g F_10 
  have c__law_town := cal__law_town (P := P) (w := w) (base := base) g F_14 
  have c__law_draw := cal__law_draw (P := P) (w := w) (base := base) g F_15 
  have c__law_name := cal__law_name (P := P) (w := w) (base := base) g F_18 EF gVE
  have c__law_raises := cal__law_raises (P := P) (w := w) (base := base) g F_19 
  have c__law_row := cal__law_row (P := P) (w := w) (base := base) g F_24 
  have c_are_pairs := cal_are_pairs (P := P) (w := w) (base := base) g F_1 c_is_between
  have c_rung_text := cal_rung_text (P := P) (w := w) (base := base) g F_7 c_pairs_text
  have c_read_pairs := cal_read_pairs (P := P) (w := w) (base := base) g F_11 c_number_of
  have c__law_pick := cal__law_pick (P := P) (w := w) (base := base) g F_16 c__law_draw
  have c__law_line := cal__law_line (P := P) (w := w) (base := base) g F_25 c__law_row
  have c_is_rung := cal_is_rung (P := P) (w := w) (base := base) g F_2 c_are_pairs
  have c_ladder_text := cal_ladder_text (P := P) (w := w) (base := base) g F_8 c_rung_text
  have c_read_rung := cal_read_rung (P := P) (w := w) (base := base) g F_12 c_read_pairs
  have c__law_pairs := cal__law_pairs (P := P) (w := w) (base := base) g F_20 c__law_draw c__law_pick
  have c_is_ladder := cal_is_ladder (P := P) (w := w) (base := base) g F_4 c_is_endless c_is_between c_is_rung
  have c__law_rung := cal__law_rung (P := P) (w := w) (base := base) g F_21 c__law_pairs c__law_pick c__law_draw
  have c_check_ladder := cal_check_ladder (P := P) (w := w) (base := base) g F_5 c_is_ladder
  have c_parse_ladder := cal_parse_ladder (P := P) (w := w) (base := base) g F_13 c_number_of c_is_ladder c_ladder_text c_read_rung
  have c__law_ladder := cal__law_ladder (P := P) (w := w) (base := base) g F_22 c__law_draw c__law_rung
  have c_X_parse_ladder := cal_X_parse_ladder (P := P) (w := w) (base := base) g F_13 EF c_number_of c_is_ladder c_ladder_text c_read_rung
  have c_format_ladder := cal_format_ladder (P := P) (w := w) (base := base) g F_9 c_check_ladder c_ladder_text
  have c__law_call := cal__law_call (P := P) (w := w) (base := base) g F_23 c_X_parse_ladder
  have c__law_outcome := cal__law_outcome (P := P) (w := w) (base := base) g F_17 EF c__law_call c__law_name
  exact ok_law (P := P) (w := w) (base := base) g Fl c__law_town c__law_ladder c__law_line c__law_draw c__law_pick c__law_outcome c_format_ladder c_is_ladder c__law_raises
end Sx
open PySem PySem.W PySem.Calls PyProof.Rows
theorem PySem.Challenge.cw_payladders_k61_whole_texts_holds : PySem.Challenge.rw_payladders_k61_whole_texts.Holds := by
  w_on; o_law
  refine HandSHeadRun.head_any (r := OpenLaw.row PySem.Challenge.rw_payladders_k61_whole_texts) (q := view (OpenLaw.row PySem.Challenge.rw_payladders_k61_whole_texts).prog [44]) (H := Sx.hk) (ob := Sx.ob) (M := 8000) (loose := Sx.loose) (d := HandSHeadRun.topDef (OpenLaw.row PySem.Challenge.rw_payladders_k61_whole_texts).prog 44) (kwd := []) Sx.ob_eq
    (by kernel_rfl) (fun s => by kernel_rfl) Sx.run (by kernel_rfl) (by kernel_rfl) (by kernel_rfl) (by rfl) (by first | assumption | decide +kernel) (by decide +kernel) ⟨rfl, rfl, rfl, rfl, rfl, by decide +kernel⟩ ?hw ?hc
  case hw => w_witness2
  case hc =>
    refine L2.walk_ofE (l := PySem.Challenge.rw_payladders_k61_whole_texts) (n := 63) (k := 8) (x := "script") (CX := L2.CX0) rfl (by decide) (by kernel_rfl) ⟨rfl, by decide, by decide⟩ ?F (fun _ _ _ _ z => z)
    intro w mg fa h Y G hmg0
    obtain ⟨K, KX, c⟩ := Y
    have hmg : mg ("law" : PySem.Str) = some (.ref fa) := by
      have e : (HandSHeadRun.topDef (OpenLaw.row PySem.Challenge.rw_payladders_k61_whole_texts).prog 44).name = ("law" : PySem.Str) := by kernel_rfl
      rw [← e]
      exact hmg0
    obtain ⟨fd, hb, hF⟩ := Sx.facts (P := (PySem.Challenge.rw_payladders_k61_whole_texts).prog) (w := w) KX G hmg c
    exact ⟨K, fd, _, KX, hb, fun H a ns hl _ hS => Sx.law_end (Sx.law_true ns hl) (Sx.exL0_tabs c.more) hS, hF⟩
