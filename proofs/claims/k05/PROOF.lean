import PyProof.Rows.All
import Wide.All
import OpenK.AllK
import Wide.FinOn
import HandS.ForMost
import HandS.Exc
import HandS.Defaults
import HandS.WordsExc
import HandS.Lambda
import HandS.TupAny
import HandS.TupMul
import HandS.Deep
import HandS.Star
import HandS.Small
import HandS.IsInst
import HandS.Text
import HandS.Zip
import HandS.HeadEnd
import HandS.HeadHook2
import KE.DataMinMax
import PySem.Challenge.RW_mixedlevels_k05_whole_sights
import KE.KStateDown
import HandS.Head0
import HandS.Head1
import HandS.Head2
import HandS.HeadHook1
import PyProof.StrLawsRepr
import PyProof.Rows.StrJoinMade
import PyProof.Rows.StrDigitsNeg
import KE.DatumOrd
set_option Elab.async false
set_option linter.all false
set_option maxRecDepth 100000
section
/-! Values, a store, outcomes; what stands for them in the heap; readings by functions. -/
namespace MX
open PySem PySem.Spec PyProof.Rows L2

/-! ### the plain side -/
/-- a plain value: tuples and lists that nobody changes any more by their items; what is changed by its number in the store -/
inductive PV where
  | non | bl (b : Bool) | int (i : Int) | str (x : Str)
  | tup (xs : List PV) | lst (xs : List PV) | ref (n : Nat)
inductive SO where
  | lst (xs : List PV) | dct (kvs : List (Key × PV)) | ins (c : Str) (fs : List (Str × PV)) | dead
structure EX where
  cls : Str
  fs : List (Str × PV)
abbrev Sl := List (Option PV)
abbrev Sto := List SO
inductive Out (α : Type) where
  | ok (a : α) (S : Sto) | exc (x : EX) (S : Sto) | stuck
@[reducible] def Out.bind {α β : Type} (o : Out α) (f : α → Sto → Out β) : Out β := match o with
  | .ok a S => f a S
  | .exc x S => .exc x S
  | .stuck => .stuck
inductive SOut where
  | nx (sp : Sl) (S : Sto) | rt (v : PV) (S : Sto) | bk (sp : Sl) (S : Sto) | ct (sp : Sl) (S : Sto) | exc (x : EX) (sp : Sl) (S : Sto) | stuck
/-- an expression, a test, an argument list, a statement -/
abbrev Sx := Sl → Sto → Out PV
abbrev St' := Sl → Sto → Out Bool
abbrev Sa := Sl → Sto → Out (List PV)
abbrev Ss := Sl → Sto → SOut

/-! ### what stands for it -/
/-- fz: what stays as it is for ever; m: where the things of the store stand; rs: what somebody keeps for himself for a while; tb: the tables of code objects -/
structure Gh where
  fz : Hp
  m : List Addr
  rs : Hp
  tb : List (Addr × Str)
structure Gh.le (g g' : Gh) : Prop where
  fz : ∀ a o, g.fz a = some o → g'.fz a = some o
  m : ∀ (i : Nat) (a : Addr), g.m[i]? = some a → g'.m[i]? = some a
  rs : g'.rs = g.rs
  tb : g'.tb = g.tb
theorem Gh.le.refl (g : Gh) : g.le g := ⟨fun _ _ h => h, fun _ _ h => h, rfl, rfl⟩
theorem Gh.le.trans {g g1 g2 : Gh} (a : g.le g1) (b : g1.le g2) : g.le g2 := ⟨fun x o h => b.fz x o (a.fz x o h), fun i x h => b.m i x (a.m i x h), b.rs.trans a.rs, b.tb.trans a.tb⟩
/-- values do not lean on rs, tb -/
structure Gh.lv (g g' : Gh) : Prop where
  fz : ∀ a o, g.fz a = some o → g'.fz a = some o
  m : ∀ (i : Nat) (a : Addr), g.m[i]? = some a → g'.m[i]? = some a
theorem Gh.le.lv {g g' : Gh} (l : g.le g') : g.lv g' := ⟨l.fz, l.m⟩
theorem Gh.lv.refl (g : Gh) : g.lv g := ⟨fun _ _ h => h, fun _ _ h => h⟩
theorem Gh.lv.trans {g g1 g2 : Gh} (a : g.lv g1) (b : g1.lv g2) : g.lv g2 := ⟨fun x o h => b.fz x o (a.fz x o h), fun i x h => b.m i x (a.m i x h)⟩
/-- a table is no list, no dict, no instance -/
def tblLike : HO → Bool
  | .tbl _ => true
  | .ext _ => true
  | _ => false
theorem tabS_upd {H : Hp} {P a : Addr} {q : Str} {o : HO} (t : LamX.TabS H P q) (h : ∀ u, H a = some u → tblLike u = false) : LamX.TabS (upd H a o) P q := by
  obtain ⟨ps, h1, h2, h3⟩ := t
  refine ⟨ps, ?_, h2, fun pos cv hc => ?_⟩
  · rw [upd_ne (fun e => by subst e; have := h _ h1; cases this)]; exact h1
  · obtain ⟨c, e1, e2⟩ := h3 pos cv hc
    refine ⟨c, e1, ?_⟩
    rw [upd_ne (fun e => by subst e; have := h _ e2; cases this)]; exact e2

theorem Rd.mono {F F' : Hp} (h : ∀ a o, F a = some o → F' a = some o) {a : Addr} {u : HO} (r : Rd F a u) : Rd F' a u := by
  rcases r with r | ⟨o, r⟩
  · exact .inl (h _ _ r)
  · exact .inr ⟨o, h _ _ r⟩
theorem SqT.mono {K : PySem.W.Frag} {F F' : Hp} (h : ∀ a o, F a = some o → F' a = some o) {a : Addr} {xs : List V} (r : SqT K F a xs) : SqT K F' a xs := by
  rcases r with r | r
  · exact .inl (Rd.mono h r)
  · exact .inr r
theorem SqL.mono {K : PySem.W.Frag} {F F' : Hp} (h : ∀ a o, F a = some o → F' a = some o) {a : Addr} {xs : List V} (r : SqL K F a xs) : SqL K F' a xs := by
  rcases r with r | r
  · exact .inl (Rd.mono h r)
  · exact .inr r

/-- a list that is read, by its very object -/
def LsQ (K : PySem.W.Frag) (F : Hp) (a : Addr) (xs : List V) : Prop := Rd F a (.lst xs) ∨ ∃ (its : List Value) (n : Nat), K.lookup a = some { cls := .type "list", data := .seq its.toArray n } ∧ xs.length ≤ sizeLine ∧ Vals xs its
theorem LsQ.mono {K : PySem.W.Frag} {F F' : Hp} (h : ∀ a o, F a = some o → F' a = some o) {a : Addr} {xs : List V} (r : LsQ K F a xs) : LsQ K F' a xs := by
  rcases r with r | r
  · exact .inl (Rd.mono h r)
  · exact .inr r
theorem LsQ.sq {K : PySem.W.Frag} {F : Hp} {a : Addr} {xs : List V} (r : LsQ K F a xs) : SqL K F a xs := by
  rcases r with r | ⟨its, n, e, z, v⟩
  · exact .inl r
  · exact .inr ⟨_, its.toArray, n, e, rfl, rfl, rfl, by rw [List.size_toArray, ← v.length]; exact z, by simpa using v⟩
theorem LsQ.obj {X : Cx} {pins : List (Addr × Obj)} {σ : L2.St} {H : Hp} {s : Shared} {a : Addr} {xs : List V} (I : Inv X pins σ H s) (r : LsQ X.K H a xs) :
    ∃ (its : List Value) (n : Nat), xs.length ≤ sizeLine ∧ Vals xs its ∧ s.heap.get? a = some { cls := .type "list", data := .seq its.toArray n } := by
  rcases r with r | ⟨its, n, e, z, v⟩
  · obtain ⟨z, its, n, v, e⟩ := r.ok I.hok
    exact ⟨its, n, z, v, e⟩
  · exact ⟨its, n, z, v, I.kIn a _ e⟩

mutual
def RepV (K : PySem.W.Frag) (g : Gh) : PV → V → Prop
  | .non, v => v = .non
  | .bl b, v => v = .bl b
  | .int i, v => v = .int i
  | .str x, v => v = .str x
  | .tup xs, v => ∃ a vs, v = .ref a ∧ SqT K g.fz a vs ∧ RepVs K g xs vs
  | .lst xs, v => ∃ a vs, v = .ref a ∧ LsQ K g.fz a vs ∧ RepVs K g xs vs
  | .ref n, v => ∃ a, v = .ref a ∧ g.m[n]? = some a
def RepVs (K : PySem.W.Frag) (g : Gh) : List PV → List V → Prop
  | [], vs => vs = []
  | x :: xs, vs => ∃ v r, vs = v :: r ∧ RepV K g x v ∧ RepVs K g xs r
end
section
variable {K : PySem.W.Frag} {g g' : Gh}
mutual
theorem RepV.monoV (l : g.lv g') : ∀ (x : PV) (v : V), RepV K g x v → RepV K g' x v
  | .non, _, h => h
  | .bl _, _, h => h
  | .int _, _, h => h
  | .str _, _, h => h
  | .tup xs, _, h => by
    obtain ⟨a, vs, e, h1, h2⟩ := h
    exact ⟨a, vs, e, SqT.mono l.fz h1, RepVs.monoV l xs vs h2⟩
  | .lst xs, _, h => by
    obtain ⟨a, vs, e, h1, h2⟩ := h
    exact ⟨a, vs, e, LsQ.mono l.fz h1, RepVs.monoV l xs vs h2⟩
  | .ref n, _, h => by
    obtain ⟨a, e, h1⟩ := h
    exact ⟨a, e, l.m _ _ h1⟩
theorem RepVs.monoV (l : g.lv g') : ∀ (xs : List PV) (vs : List V), RepVs K g xs vs → RepVs K g' xs vs
  | [], _, h => h
  | x :: xs, _, h => by
    obtain ⟨v, r, e, h1, h2⟩ := h
    exact ⟨v, r, e, RepV.monoV l x v h1, RepVs.monoV l xs r h2⟩
end
theorem RepV.mono (l : g.le g') (x : PV) (v : V) (h : RepV K g x v) : RepV K g' x v := RepV.monoV l.lv x v h
theorem RepVs.mono (l : g.le g') (xs : List PV) (vs : List V) (h : RepVs K g xs vs) : RepVs K g' xs vs := RepVs.monoV l.lv xs vs h
theorem RepVs.nil : RepVs K g [] [] := rfl
theorem RepVs.cons {x : PV} {v : V} {xs : List PV} {vs : List V} (h : RepV K g x v) (t : RepVs K g xs vs) : RepVs K g (x :: xs) (v :: vs) := ⟨v, vs, rfl, h, t⟩
theorem RepVs.length : ∀ {xs : List PV} {vs : List V}, RepVs K g xs vs → xs.length = vs.length
  | [], _, h => by cases (show _ = [] from h); rfl
  | x :: xs, _, h => by
    obtain ⟨v, r, e, h1, h2⟩ := h
    subst e
    exact congrArg Nat.succ (RepVs.length h2)
theorem RepVs.get : ∀ {xs : List PV} {vs : List V} {i : Nat} {x : PV}, RepVs K g xs vs → xs[i]? = some x → ∃ v, vs[i]? = some v ∧ RepV K g x v
  | [], _, _, _, _, e => by simp at e
  | y :: ys, _, 0, x, h, e => by
    obtain ⟨v, r, e', h1, h2⟩ := h
    subst e'
    simp at e; subst e
    exact ⟨v, rfl, h1⟩
  | y :: ys, _, i + 1, x, h, e => by
    obtain ⟨v, r, e', h1, h2⟩ := h
    subst e'
    obtain ⟨u, q1, q2⟩ := RepVs.get (i := i) (x := x) h2 (by simpa using e)
    exact ⟨u, by simpa using q1, q2⟩
theorem RepVs.get' : ∀ {xs : List PV} {vs : List V} {i : Nat} {v : V}, RepVs K g xs vs → vs[i]? = some v → ∃ x, xs[i]? = some x ∧ RepV K g x v := fun {xs vs i v} h e => by
  have hl := h.length
  have hi : i < xs.length := by
    rw [hl]; exact (List.getElem?_eq_some_iff.mp e).1
  obtain ⟨u, q1, q2⟩ := h.get (i := i) (x := xs[i]) (by simp [hi])
  rw [e] at q1; cases q1
  exact ⟨xs[i], by simp [hi], q2⟩
theorem RepVs.append : ∀ {xs ys : List PV} {vs ws : List V}, RepVs K g xs vs → RepVs K g ys ws → RepVs K g (xs ++ ys) (vs ++ ws)
  | [], _, _, _, h, h' => by cases (show _ = [] from h); exact h'
  | x :: xs, _, _, _, h, h' => by
    obtain ⟨v, r, e, h1, h2⟩ := h
    subst e
    exact .cons h1 (RepVs.append h2 h')
theorem RepVs.take : ∀ (n : Nat) {xs : List PV} {vs : List V}, RepVs K g xs vs → RepVs K g (xs.take n) (vs.take n)
  | 0, _, _, _ => by simp only [List.take_zero]; exact .nil
  | n + 1, [], _, h => by cases (show _ = [] from h); exact .nil
  | n + 1, x :: xs, _, h => by
    obtain ⟨v, r, e, h1, h2⟩ := h
    subst e
    exact .cons h1 (RepVs.take n h2)
theorem RepVs.drop : ∀ (n : Nat) {xs : List PV} {vs : List V}, RepVs K g xs vs → RepVs K g (xs.drop n) (vs.drop n)
  | 0, _, _, h => h
  | n + 1, [], _, h => by cases (show _ = [] from h); exact .nil
  | n + 1, x :: xs, _, h => by
    obtain ⟨v, r, e, h1, h2⟩ := h
    subst e
    exact RepVs.drop n h2
theorem RepVs.set {x : PV} {v : V} (h : RepV K g x v) : ∀ (i : Nat) {xs : List PV} {vs : List V}, RepVs K g xs vs → RepVs K g (xs.set i x) (vs.set i v)
  | _, [], _, h' => by cases (show _ = [] from h'); exact .nil
  | 0, y :: ys, _, h' => by
    obtain ⟨u, r, e, h1, h2⟩ := h'
    subst e
    exact .cons h h2
  | i + 1, y :: ys, _, h' => by
    obtain ⟨u, r, e, h1, h2⟩ := h'
    subst e
    exact .cons h1 (RepVs.set h i h2)
theorem RepVs.reverse : ∀ {xs : List PV} {vs : List V}, RepVs K g xs vs → RepVs K g xs.reverse vs.reverse
  | [], _, h => by cases (show _ = [] from h); exact .nil
  | x :: xs, _, h => by
    obtain ⟨u, r, e, h1, h2⟩ := h
    subst e
    rw [List.reverse_cons, List.reverse_cons]
    exact RepVs.append (RepVs.reverse h2) (.cons h1 .nil)
theorem RepVs.cut {xs : List PV} {vs : List V} (h : RepVs K g xs vs) (lo hi : Option Int) :
    RepVs K g ((xs.drop (HT.sIx xs.length 0 lo)).take (HT.sIx xs.length xs.length hi - HT.sIx xs.length 0 lo)) (cutV vs lo hi) := by
  unfold cutV
  rw [← h.length]
  exact (h.drop _).take _
end

abbrev RepF (K : PySem.W.Frag) (g : Gh) : List (Str × PV) → List (Str × V) → Prop := Paired fun p q => p.1 = q.1 ∧ RepV K g p.2 q.2
abbrev RepKV (K : PySem.W.Frag) (g : Gh) : List (Key × PV) → List (Key × V) → Prop := Paired fun p q => p.1 = q.1 ∧ RepV K g p.2 q.2
def RepO (K : PySem.W.Frag) (mg : Str → Option Value) (g : Gh) (H : Hp) : SO → Addr → Prop
  | .lst xs, a => ∃ vs, H a = some (.lst vs) ∧ RepVs K g xs vs
  | .dct kvs, a => ∃ ws, H a = some (.dK ws) ∧ RepKV K g kvs ws
  | .ins c fs, a => ∃ C dx ws, mg c = some (.ref C) ∧ H a = some (.ins C dx ws) ∧ RepF K g fs ws
  | .dead, _ => True
structure RepS (K : PySem.W.Frag) (mg : Str → Option Value) (g : Gh) (S : Sto) (H : Hp) : Prop where
  fz : ∀ a o, g.fz a = some o → H a = some o
  len : g.m.length = S.length
  ob : ∀ (i : Nat) (so : SO) (a : Addr), S[i]? = some so → g.m[i]? = some a → RepO K mg g H so a
  nofz : ∀ (i : Nat) (so : SO) (a : Addr), S[i]? = some so → so ≠ .dead → g.m[i]? = some a → g.fz a = none
  inj : ∀ (i j : Nat) (so so' : SO) (a : Addr), S[i]? = some so → so ≠ .dead → S[j]? = some so' → so' ≠ .dead → g.m[i]? = some a → g.m[j]? = some a → i = j
  rs : ∀ a o, g.rs a = some o → H a = some o ∧ g.fz a = none ∧ ∀ (i : Nat) (so : SO), S[i]? = some so → so ≠ .dead → g.m[i]? ≠ some a
  tb : ∀ p ∈ g.tb, LamX.TabS H p.1 p.2
structure RepE (K : PySem.W.Frag) (g : Gh) (sp : Sl) (σ : L2.St) : Prop where
  len : sp.length = σ.length
  get : ∀ (i : Nat) (x : PV), sp[i]? = some (some x) → ∃ v, σ[i]? = some (some v) ∧ RepV K g x v
def RepX (K : PySem.W.Frag) (mg : Str → Option Value) (g : Gh) (x : EX) (cls : Value) (d : Option Addr) (H : Hp) : Prop :=
  mg x.cls = some cls ∧ ∃ dx ws, d = some dx ∧ H dx = some (.xd ws) ∧ RepF K g x.fs ws

section
variable {K : PySem.W.Frag} {mg : Str → Option Value} {g g' : Gh} {S : Sto} {H : Hp} {sp : Sl} {σ : L2.St}
theorem RepF.monoV (l : g.lv g') {xs : List (Str × PV)} {ws : List (Str × V)} (h : RepF K g xs ws) : RepF K g' xs ws := Paired.mapP h fun _ _ q => ⟨q.1, RepV.monoV l _ _ q.2⟩
theorem RepKV.monoV (l : g.lv g') {xs : List (Key × PV)} {ws : List (Key × V)} (h : RepKV K g xs ws) : RepKV K g' xs ws := Paired.mapP h fun _ _ q => ⟨q.1, RepV.monoV l _ _ q.2⟩
theorem RepE.monoV (l : g.lv g') (h : RepE K g sp σ) : RepE K g' sp σ := ⟨h.len, fun i x e => by
  obtain ⟨v, e1, r⟩ := h.get i x e
  exact ⟨v, e1, RepV.monoV l _ _ r⟩⟩
theorem RepE.mono (l : g.le g') (h : RepE K g sp σ) : RepE K g' sp σ := RepE.monoV l.lv h
theorem RepE.set {x : PV} {v : V} (h : RepE K g sp σ) (r : RepV K g x v) (i : Nat) : RepE K g (sp.set i (some x)) (σ.set i (some v)) := by
  refine ⟨by simp [h.len], fun j y e => ?_⟩
  by_cases hj : i = j
  · subst hj
    have hi : i < sp.length := by
      by_cases hi : i < sp.length
      · exact hi
      · rw [List.getElem?_eq_none (by simpa using hi)] at e; cases e
    rw [List.getElem?_set_self hi] at e
    cases e
    exact ⟨v, List.getElem?_set_self (by rw [← h.len]; exact hi), r⟩
  · rw [List.getElem?_set_ne hj] at e
    obtain ⟨u, e1, q⟩ := h.get j y e
    exact ⟨u, by rw [List.getElem?_set_ne hj]; exact e1, q⟩
theorem RepO.monoV (l : g.lv g') {so : SO} {a : Addr} (h : RepO K mg g H so a) : RepO K mg g' H so a := by
  cases so with
  | lst xs => obtain ⟨vs, e, r⟩ := h; exact ⟨vs, e, RepVs.monoV l _ _ r⟩
  | dct kvs => obtain ⟨ws, e, r⟩ := h; exact ⟨ws, e, RepKV.monoV l r⟩
  | ins c fs => obtain ⟨C, dx, ws, e0, e, r⟩ := h; exact ⟨C, dx, ws, e0, e, RepF.monoV l r⟩
  | dead => trivial
theorem RepO.mono (l : g.le g') {so : SO} {a : Addr} (h : RepO K mg g H so a) : RepO K mg g' H so a := h.monoV l.lv
theorem RepO.kind {so : SO} {a : Addr} (h : RepO K mg g H so a) (n : so ≠ .dead) : ∀ u, H a = some u → tblLike u = false := fun u e => by
  cases so with
  | lst xs => obtain ⟨vs, e', r⟩ := h; rw [e] at e'; cases e'; rfl
  | dct kvs => obtain ⟨ws, e', r⟩ := h; rw [e] at e'; cases e'; rfl
  | ins c fs => obtain ⟨C, dx, ws, e0, e', r⟩ := h; rw [e] at e'; cases e'; rfl
  | dead => exact absurd rfl n
theorem RepO.heap {H' : Hp} {so : SO} {a : Addr} (h : RepO K mg g H so a) (e : H' a = H a) : RepO K mg g H' so a := by
  cases so with
  | lst xs => obtain ⟨vs, e', r⟩ := h; exact ⟨vs, e.trans e', r⟩
  | dct kvs => obtain ⟨ws, e', r⟩ := h; exact ⟨ws, e.trans e', r⟩
  | ins c fs => obtain ⟨C, dx, ws, e0, e', r⟩ := h; exact ⟨C, dx, ws, e0, e.trans e', r⟩
  | dead => trivial
theorem RepO.there {so : SO} {a : Addr} (h : RepO K mg g H so a) (n : so ≠ .dead) : ∃ o, H a = some o := by
  cases so with
  | lst xs => obtain ⟨vs, e', r⟩ := h; exact ⟨_, e'⟩
  | dct kvs => obtain ⟨ws, e', r⟩ := h; exact ⟨_, e'⟩
  | ins c fs => obtain ⟨C, dx, ws, e0, e', r⟩ := h; exact ⟨_, e'⟩
  | dead => exact absurd rfl n
theorem dead_or (so : SO) : so = .dead ∨ so ≠ .dead := by
  cases so with
  | dead => exact .inl rfl
  | _ => exact .inr (fun h => by cases h)

/-- what is tracked stays, but for new things -/
theorem RepS.kept {H' : Hp} (h : RepS K mg g S H) (k : ∀ a o, H a = some o → H' a = some o) : RepS K mg g S H' := by
  refine ⟨fun a o e => k _ _ (h.fz a o e), h.len, fun i so a e1 e2 => ?_, h.nofz, h.inj, fun a o e => ⟨k _ _ (h.rs a o e).1, (h.rs a o e).2⟩, fun p hp => (h.tb p hp).ext k⟩
  have r := h.ob i so a e1 e2
  rcases dead_or so with z | z
  · subst z; trivial
  · obtain ⟨o, e⟩ := r.there z
    exact r.heap ((k _ _ e).trans e.symm)
theorem keep_new {p : Addr} {o : HO} (hp : H p = none) : ∀ a u, H a = some u → (upd H p o) a = some u := fun a u e => by
  rw [upd_ne (ne_of_none e hp)]; exact e
/-- a new thing that nobody will change -/
theorem RepS.froze {p : Addr} {o : HO} (h : RepS K mg g S H) (hp : H p = none) : RepS K mg ⟨upd g.fz p o, g.m, g.rs, g.tb⟩ S (upd H p o) ∧ g.le ⟨upd g.fz p o, g.m, g.rs, g.tb⟩ := by
  have gp : g.fz p = none := by
    cases e : g.fz p with
    | none => rfl
    | some u => rw [h.fz p u e] at hp; cases hp
  have l : g.le ⟨upd g.fz p o, g.m, g.rs, g.tb⟩ := ⟨fun a u e => keep_new gp a u e, fun _ _ e => e, rfl, rfl⟩
  have h' := h.kept (keep_new (o := o) hp)
  refine ⟨⟨fun a u e => ?_, h.len, fun i so a e1 e2 => (h'.ob i so a e1 e2).mono l, fun i so a e1 n e2 => ?_, h.inj, fun a u e => ?_, h'.tb⟩, l⟩
  · by_cases ha : a = p
    · subst ha
      have e' : upd g.fz a o a = some u := e
      rw [upd_same] at e' ⊢; exact e'
    · have e' : upd g.fz p o a = some u := e
      rw [upd_ne ha] at e' ⊢; exact h.fz a u e'
  · have ha : a ≠ p := by
      obtain ⟨u, e⟩ := (h.ob i so a e1 e2).there n
      exact ne_of_none e hp
    show upd g.fz p o a = none
    rw [upd_ne ha]
    exact h.nofz i so a e1 n e2
  · obtain ⟨q1, q2, q3⟩ := h.rs a u e
    have ha : a ≠ p := ne_of_none q1 hp
    refine ⟨keep_new hp a u q1, ?_, q3⟩
    show upd g.fz p o a = none
    rw [upd_ne ha]; exact q2
/-- a new thing of the store -/
theorem RepS.push {p : Addr} {o : HO} {so : SO} (h : RepS K mg g S H) (hp : H p = none) (r : RepO K mg g (upd H p o) so p) : RepS K mg ⟨g.fz, g.m ++ [p], g.rs, g.tb⟩ (S ++ [so]) (upd H p o) ∧ g.le ⟨g.fz, g.m ++ [p], g.rs, g.tb⟩ := by
  have l : g.le ⟨g.fz, g.m ++ [p], g.rs, g.tb⟩ := ⟨fun _ _ e => e, fun i a e => by
    show (g.m ++ [p])[i]? = some a
    rw [List.getElem?_append_left (List.getElem?_eq_some_iff.mp e).1]; exact e, rfl, rfl⟩
  have gp : g.fz p = none := by
    cases e : g.fz p with
    | none => rfl
    | some u => rw [h.fz p u e] at hp; cases hp
  have h' := h.kept (keep_new (o := o) hp)
  have cases_i : ∀ (i : Nat) (s1 : SO) (a : Addr), (S ++ [so])[i]? = some s1 → (g.m ++ [p])[i]? = some a → (S[i]? = some s1 ∧ g.m[i]? = some a) ∨ (i = S.length ∧ s1 = so ∧ a = p) := fun i s1 a e1 e2 => by
    by_cases hi : i < S.length
    · rw [List.getElem?_append_left hi] at e1
      rw [List.getElem?_append_left (by rw [h.len]; exact hi)] at e2
      exact .inl ⟨e1, e2⟩
    · have hi2 : i < (S ++ [so]).length := (List.getElem?_eq_some_iff.mp e1).1
      have : i = S.length := by simp at hi2; omega
      subst this
      refine .inr ⟨rfl, ?_, ?_⟩
      · simpa using e1.symm
      · rw [← h.len] at e2; simpa using e2.symm
  refine ⟨⟨fun a u e => h'.fz a u e, by simp [h.len], fun i s1 a e1 e2 => ?_, fun i s1 a e1 n e2 => ?_, fun i j s1 s2 a e1 n1 e2 n2 e3 e4 => ?_, fun a u e => ?_, h'.tb⟩, l⟩
  · rcases cases_i i s1 a e1 e2 with ⟨q1, q2⟩ | ⟨_, rfl, rfl⟩
    · exact (h'.ob i s1 a q1 q2).mono l
    · exact r.mono l
  · rcases cases_i i s1 a e1 e2 with ⟨q1, q2⟩ | ⟨_, rfl, rfl⟩
    · exact h.nofz i s1 a q1 n q2
    · exact gp
  · rcases cases_i i s1 a e1 e3 with ⟨q1, q2⟩ | ⟨rfl, rfl, rfl⟩
    · rcases cases_i j s2 a e2 e4 with ⟨q3, q4⟩ | ⟨rfl, rfl, rfl⟩
      · exact h.inj i j s1 s2 a q1 n1 q3 n2 q2 q4
      · obtain ⟨u, e⟩ := (h.ob i s1 _ q1 q2).there n1
        rw [hp] at e; cases e
    · rcases cases_i j s2 _ e2 e4 with ⟨q3, q4⟩ | ⟨rfl, rfl, _⟩
      · obtain ⟨u, e⟩ := (h.ob j s2 _ q3 q4).there n2
        rw [hp] at e; cases e
      · rfl
  · obtain ⟨q1, q2, q3⟩ := h'.rs a u e
    refine ⟨q1, q2, fun i s1 e1 n1 e2 => ?_⟩
    rcases cases_i i s1 a e1 e2 with ⟨q4, q5⟩ | ⟨_, _, e3⟩
    · exact q3 i s1 q4 n1 q5
    · subst e3
      have := (h.rs a u e).1
      rw [hp] at this; cases this
/-- a thing of the store changed -/
theorem RepS.put {n : Nat} {a : Addr} {o : HO} {so so' : SO} (h : RepS K mg g S H) (hs : S[n]? = some so) (nd : so ≠ .dead) (hm : g.m[n]? = some a) (r : RepO K mg g (upd H a o) so' a) : RepS K mg g (S.set n so') (upd H a o) := by
  have hn : n < S.length := (List.getElem?_eq_some_iff.mp hs).1
  have ci : ∀ (i : Nat) (s1 : SO), (S.set n so')[i]? = some s1 → (i = n ∧ s1 = so') ∨ (i ≠ n ∧ S[i]? = some s1) := fun i s1 e => by
    by_cases hi : n = i
    · subst hi
      rw [List.getElem?_set_self hn] at e
      exact .inl ⟨rfl, (Option.some.inj e).symm⟩
    · rw [List.getElem?_set_ne hi] at e
      exact .inr ⟨fun z => hi z.symm, e⟩
  refine ⟨fun b u e => ?_, by simp [h.len], fun i s1 b e1 e2 => ?_, fun i s1 b e1 n1 e2 => ?_, fun i j s1 s2 b e1 n1 e2 n2 e3 e4 => ?_, fun b u e => ?_, fun p hp => tabS_upd (h.tb p hp) ((h.ob n so a hs hm).kind nd)⟩
  · have hb : b ≠ a := fun z => by
      subst z
      rw [h.nofz n so b hs nd hm] at e; cases e
    rw [upd_ne hb]; exact h.fz b u e
  · rcases ci i s1 e1 with ⟨rfl, rfl⟩ | ⟨hi, q⟩
    · rw [hm] at e2; cases e2; exact r
    · rcases dead_or s1 with z | z
      · subst z; trivial
      · have hb : b ≠ a := fun e => by
          subst e
          exact hi (h.inj i n s1 so b q z hs nd e2 hm)
        exact (h.ob i s1 b q e2).heap (upd_ne hb)
  · rcases ci i s1 e1 with ⟨rfl, rfl⟩ | ⟨hi, q⟩
    · exact h.nofz i so b hs nd e2
    · exact h.nofz i s1 b q n1 e2
  · rcases ci i s1 e1 with ⟨rfl, rfl⟩ | ⟨hi, q⟩
    · rcases ci j s2 e2 with ⟨rfl, rfl⟩ | ⟨hj, q'⟩
      · rfl
      · exact h.inj i j so s2 b hs nd q' n2 e3 e4
    · rcases ci j s2 e2 with ⟨rfl, rfl⟩ | ⟨hj, q'⟩
      · exact h.inj i j s1 so b q n1 hs nd e3 e4
      · exact h.inj i j s1 s2 b q n1 q' n2 e3 e4
  · obtain ⟨q1, q2, q3⟩ := h.rs b u e
    have hb : b ≠ a := fun z => by subst z; exact q3 n so hs nd hm
    refine ⟨by rw [upd_ne hb]; exact q1, q2, fun i s1 e1 n1 e2 => ?_⟩
    rcases ci i s1 e1 with ⟨rfl, rfl⟩ | ⟨hi, q⟩
    · exact q3 i so hs nd e2
    · exact q3 i s1 q n1 e2
/-- a new thing kept for oneself -/
theorem RepS.reserve {p : Addr} {o : HO} (h : RepS K mg g S H) (hp : H p = none) : RepS K mg { g with rs := upd g.rs p o } S (upd H p o) := by
  have gp : g.fz p = none := by
    cases e : g.fz p with
    | none => rfl
    | some u => rw [h.fz p u e] at hp; cases hp
  have h' := h.kept (keep_new (o := o) hp)
  have l : g.lv { g with rs := upd g.rs p o } := ⟨fun _ _ e => e, fun _ _ e => e⟩
  refine ⟨h'.fz, h.len, fun i so a e1 e2 => (h'.ob i so a e1 e2).monoV l, h.nofz, h.inj, fun a u e => ?_, h'.tb⟩
  by_cases ha : a = p
  · subst ha
    have e' : upd g.rs a o a = some u := e
    rw [upd_same] at e' ⊢
    refine ⟨e', gp, fun i so e1 n e2 => ?_⟩
    obtain ⟨z, q⟩ := (h.ob i so a e1 e2).there n
    rw [hp] at q; cases q
  · have e' : upd g.rs p o a = some u := e
    rw [upd_ne ha] at e'
    exact h'.rs a u e'
/-- .. changed -/
theorem RepS.rekeep {p : Addr} {o o' : HO} (h : RepS K mg g S H) (hp : g.rs p = some o) (ho : tblLike o = false) : RepS K mg { g with rs := upd g.rs p o' } S (upd H p o') := by
  obtain ⟨q1, q2, q3⟩ := h.rs p o hp
  have l : g.lv { g with rs := upd g.rs p o' } := ⟨fun _ _ e => e, fun _ _ e => e⟩
  refine ⟨fun a u e => ?_, h.len, fun i so a e1 e2 => ?_, h.nofz, h.inj, fun a u e => ?_, fun q hq => tabS_upd (h.tb q hq) (fun u e => by rw [q1] at e; cases e; exact ho)⟩
  · have ha : a ≠ p := fun z => by subst z; have e' : g.fz a = some u := e; rw [q2] at e'; cases e'
    rw [upd_ne ha]; exact h.fz a u e
  · rcases dead_or so with z | z
    · subst z; trivial
    · have ha : a ≠ p := fun e => by subst e; exact q3 i so e1 z e2
      exact ((h.ob i so a e1 e2).heap (upd_ne ha)).monoV l
  · by_cases ha : a = p
    · subst ha
      have e' : upd g.rs a o' a = some u := e
      rw [upd_same] at e' ⊢
      exact ⟨e', q2, q3⟩
    · have e' : upd g.rs p o' a = some u := e
      rw [upd_ne ha] at e' ⊢
      exact h.rs a u e'
/-- .. let go, to stay as it is -/
theorem RepS.letGo {p : Addr} {o : HO} {r0 : Hp} (h : RepS K mg g S H) (hp : g.rs p = some o) (h0 : ∀ a u, r0 a = some u → a ≠ p ∧ g.rs a = some u) : RepS K mg ⟨upd g.fz p o, g.m, r0, g.tb⟩ S H ∧ g.lv ⟨upd g.fz p o, g.m, r0, g.tb⟩ := by
  obtain ⟨q1, q2, q3⟩ := h.rs p o hp
  have l : g.lv ⟨upd g.fz p o, g.m, r0, g.tb⟩ := ⟨fun a u e => by
    show upd g.fz p o a = some u
    rw [upd_ne (fun z => by subst z; rw [q2] at e; cases e)]; exact e, fun _ _ e => e⟩
  refine ⟨⟨fun a u e => ?_, h.len, fun i so a e1 e2 => (h.ob i so a e1 e2).monoV l, fun i so a e1 n e2 => ?_, h.inj, fun a u e => ?_, h.tb⟩, l⟩
  · by_cases ha : a = p
    · subst ha
      have e' : upd g.fz a o a = some u := e
      rw [upd_same] at e'; cases e'; exact q1
    · have e' : upd g.fz p o a = some u := e
      rw [upd_ne ha] at e'
      exact h.fz a u e'
  · show upd g.fz p o a = none
    rw [upd_ne (fun z => by subst z; exact q3 i so e1 n e2)]
    exact h.nofz i so a e1 n e2
  · obtain ⟨n1, n2⟩ := h0 a u e
    obtain ⟨k1, k2, k3⟩ := h.rs a u n2
    refine ⟨k1, ?_, k3⟩
    show upd g.fz p o a = none
    rw [upd_ne n1]; exact k2
/-- .. let go, into the store -/
theorem RepS.letIn {p : Addr} {o : HO} {so : SO} {r0 : Hp} (h : RepS K mg g S H) (hp : g.rs p = some o) (h0 : ∀ a u, r0 a = some u → a ≠ p ∧ g.rs a = some u) (r : RepO K mg g H so p) : RepS K mg ⟨g.fz, g.m ++ [p], r0, g.tb⟩ (S ++ [so]) H ∧ g.lv ⟨g.fz, g.m ++ [p], r0, g.tb⟩ := by
  obtain ⟨q1, q2, q3⟩ := h.rs p o hp
  have l : g.lv ⟨g.fz, g.m ++ [p], r0, g.tb⟩ := ⟨fun _ _ e => e, fun i a e => by
    show (g.m ++ [p])[i]? = some a
    rw [List.getElem?_append_left (List.getElem?_eq_some_iff.mp e).1]; exact e⟩
  have cases_i : ∀ (i : Nat) (s1 : SO) (a : Addr), (S ++ [so])[i]? = some s1 → (g.m ++ [p])[i]? = some a → (S[i]? = some s1 ∧ g.m[i]? = some a) ∨ (i = S.length ∧ s1 = so ∧ a = p) := fun i s1 a e1 e2 => by
    by_cases hi : i < S.length
    · rw [List.getElem?_append_left hi] at e1
      rw [List.getElem?_append_left (by rw [h.len]; exact hi)] at e2
      exact .inl ⟨e1, e2⟩
    · have hi2 : i < (S ++ [so]).length := (List.getElem?_eq_some_iff.mp e1).1
      have : i = S.length := by simp at hi2; omega
      subst this
      refine .inr ⟨rfl, ?_, ?_⟩
      · simpa using e1.symm
      · rw [← h.len] at e2; simpa using e2.symm
  refine ⟨⟨h.fz, by simp [h.len], fun i s1 a e1 e2 => ?_, fun i s1 a e1 n e2 => ?_, fun i j s1 s2 a e1 n1 e2 n2 e3 e4 => ?_, fun a u e => ?_, h.tb⟩, l⟩
  · rcases cases_i i s1 a e1 e2 with ⟨k1, k2⟩ | ⟨_, rfl, rfl⟩
    · exact (h.ob i s1 a k1 k2).monoV l
    · exact r.monoV l
  · rcases cases_i i s1 a e1 e2 with ⟨k1, k2⟩ | ⟨_, rfl, rfl⟩
    · exact h.nofz i s1 a k1 n k2
    · exact q2
  · rcases cases_i i s1 a e1 e3 with ⟨k1, k2⟩ | ⟨rfl, rfl, rfl⟩
    · rcases cases_i j s2 a e2 e4 with ⟨k3, k4⟩ | ⟨rfl, rfl, rfl⟩
      · exact h.inj i j s1 s2 a k1 n1 k3 n2 k2 k4
      · exact absurd k2 (q3 i s1 k1 n1)
    · rcases cases_i j s2 _ e2 e4 with ⟨k3, k4⟩ | ⟨rfl, rfl, _⟩
      · exact absurd k4 (q3 j s2 k3 n2)
      · rfl
  · obtain ⟨n1, n2⟩ := h0 a u e
    obtain ⟨k1, k2, k3⟩ := h.rs a u n2
    refine ⟨k1, k2, fun i s1 e1 n e2 => ?_⟩
    rcases cases_i i s1 a e1 e2 with ⟨k4, k5⟩ | ⟨_, _, e3⟩
    · exact k3 i s1 k4 n k5
    · exact n1 e3
theorem RepS.at_ {n : Nat} {a : Addr} (h : RepS K mg g S H) (hm : g.m[n]? = some a) : ∃ so, S[n]? = some so := by
  have hn : n < g.m.length := (List.getElem?_eq_some_iff.mp hm).1
  rw [h.len] at hn
  exact ⟨S[n], by simp [hn]⟩
theorem RepS.addr {n : Nat} {so : SO} (h : RepS K mg g S H) (e : S[n]? = some so) : ∃ a, g.m[n]? = some a := by
  have hn : n < S.length := (List.getElem?_eq_some_iff.mp e).1
  rw [← h.len] at hn
  exact ⟨g.m[n], by simp [hn]⟩
end

/-! ### readings -/
section
variable (X : Cx)
/-- behind an outcome: E takes an exception -/
def Post {α β : Type} (g : Gh) (R : Gh → α → β → Prop) (E : EX → Sto → Prop) (o : Out α) (Q : β → Hp → Prop) : Prop := match o with
  | .ok a S => ∀ b H g', g.le g' → RepS X.K X.mg g' S H → R g' a b → Q b H
  | .exc x S => E x S
  | .stuck => False
def WishX (g : Gh) (sp : Sl) (x : EX) (S : Sto) : WX := fun cls d σ H => ∃ g', g.le g' ∧ RepS X.K X.mg g' S H ∧ RepE X.K g' sp σ ∧ RepX X.K X.mg g' x cls d H
def ExcT (g : Gh) (sp : Sl) (x : EX) (S : Sto) : Prop := Takes X (WishX X g sp x S)
theorem ExcT.mono {X : Cx} {g g' : Gh} {sp : Sl} {x : EX} {S : Sto} (t : ExcT X g sp x S) (l : g.le g') : ExcT X g' sp x S :=
  Takes.imp t fun _ _ _ _ ⟨g2, l2, h⟩ => ⟨g2, l.trans l2, h⟩
def rdE (t : Sx) : TE := fun σ H Q => ∃ g sp S, RepS X.K X.mg g S H ∧ RepE X.K g sp σ ∧ Post X g (RepV X.K) (ExcT X g sp) (t sp S) Q
def rdT (t : St') : TT := fun σ H Q => ∃ g sp S, RepS X.K X.mg g S H ∧ RepE X.K g sp σ ∧ Post X g (fun _ a b => a = b) (ExcT X g sp) (t sp S) Q
def rdA (t : Sa) : TA := fun σ H Q => ∃ g sp S, RepS X.K X.mg g S H ∧ RepE X.K g sp σ ∧ Post X g (RepVs X.K) (ExcT X g sp) (t sp S) Q
def PostS (g : Gh) (o : SOut) (D : Ends) : Prop := match o with
  | .nx sp S => ∀ σ H g', g.le g' → RepS X.K X.mg g' S H → RepE X.K g' sp σ → D.nx σ H
  | .rt x S => ∀ v H g', g.le g' → RepS X.K X.mg g' S H → RepV X.K g' x v → D.rt v H
  | .bk sp S => ∀ σ H g', g.le g' → RepS X.K X.mg g' S H → RepE X.K g' sp σ → D.bk σ H
  | .ct sp S => ∀ σ H g', g.le g' → RepS X.K X.mg g' S H → RepE X.K g' sp σ → D.ct σ H
  | .exc x sp S => ExcT X g sp x S
  | .stuck => False
def rdS (t : Ss) : TS := fun D σ H => ∃ g sp S, RepS X.K X.mg g S H ∧ RepE X.K g sp σ ∧ PostS X g (t sp S) D
end
section
variable {X : Cx} {α β γ δ : Type}
theorem _root_.L2.PE.imp {e : Expr} {t t' : TE} (h : PE X e t) (i : ∀ σ H Q, t' σ H Q → t σ H Q) : PE X e t' := ⟨fun pins s σ H Q I q => h.run pins s σ H Q I (i _ _ _ q)⟩
theorem _root_.L2.PT.imp {e : Expr} {t t' : TT} (h : PT X e t) (i : ∀ σ H Q, t' σ H Q → t σ H Q) : PT X e t' := ⟨fun pins s σ H Q I q => h.run pins s σ H Q I (i _ _ _ q)⟩
theorem _root_.L2.PW.imp {e : Expr} {t t' : TT} (h : PW X e t) (i : ∀ σ H Q, t' σ H Q → t σ H Q) : PW X e t' := ⟨fun wh pins s σ H Q I q => h.run wh pins s σ H Q I (i _ _ _ q)⟩
theorem _root_.L2.PA.imp {e : List Expr} {t t' : TA} (h : PA X e t) (i : ∀ σ H Q, t' σ H Q → t σ H Q) : PA X e t' := ⟨fun pos pins s σ H Q I q => h.run pos pins s σ H Q I (i _ _ _ q)⟩
theorem _root_.L2.PS.imp {e : Stmt} {t t' : TS} (h : PS X e t) (i : ∀ D σ H, t' D σ H → t D σ H) : PS X e t' := ⟨fun pins s σ H D I q => h.run pins s σ H D I (i _ _ _ q)⟩
theorem _root_.L2.PSs.imp {e : List Stmt} {t t' : TS} (h : PSs X e t) (i : ∀ D σ H, t' D σ H → t D σ H) : PSs X e t' := ⟨fun pins s σ H D I q => h.run pins s σ H D I (i _ _ _ q)⟩

theorem Post.imp {g : Gh} {R : Gh → α → β → Prop} {E E' : EX → Sto → Prop} {o : Out α} {Q Q' : β → Hp → Prop} (h : Post X g R E o Q) (hE : ∀ x S, E x S → E' x S)
    (hQ : ∀ b H, Q b H → Q' b H) : Post X g R E' o Q' := by
  cases o with
  | ok a S => exact fun b H g' l hS r => hQ b H (h b H g' l hS r)
  | exc x S => exact hE x S h
  | stuck => exact h
theorem Post.le {g g1 : Gh} {R : Gh → α → β → Prop} {E : EX → Sto → Prop} {o : Out α} {Q : β → Hp → Prop} (h : Post X g R E o Q) (l : g.le g1) : Post X g1 R E o Q := by
  cases o with
  | ok a S => exact fun b H g' l' hS r => h b H g' (l.trans l') hS r
  | exc x S => exact h
  | stuck => exact h
/-- one thing behind another -/
theorem Post.seq {g : Gh} {R : Gh → α → β → Prop} {R2 : Gh → γ → δ → Prop} {sp : Sl} {o : Out α} {f : α → Sto → Out γ} {Q : δ → Hp → Prop} (h : Post X g R2 (ExcT X g sp) (o.bind f) Q) :
    Post X g R (ExcT X g sp) o (fun b H1 => ∃ a g1 S1, g.le g1 ∧ RepS X.K X.mg g1 S1 H1 ∧ R g1 a b ∧ Post X g1 R2 (ExcT X g1 sp) (f a S1) Q) := by
  cases o with
  | ok a S => exact fun b H1 g1 l hS r => ⟨a, g1, S, l, hS, r, (Post.imp (show Post X g R2 (ExcT X g sp) (f a S) Q from h) (fun x S' t => t.mono l) fun _ _ q => q).le l⟩
  | exc x S => exact h
  | stuck => exact h
/-- the first of a row -/
theorem rdE.fst {ta : Sx} {sp : Sl} {S : Sto} {g : Gh} {σ : L2.St} {H : Hp} {R2 : Gh → γ → δ → Prop} {f : PV → Sto → Out γ} {Q : δ → Hp → Prop} (hS : RepS X.K X.mg g S H) (hE : RepE X.K g sp σ)
    (h : Post X g R2 (ExcT X g sp) ((ta sp S).bind f) Q) :
    rdE X ta σ H (fun b H1 => ∃ a g1 S1, g.le g1 ∧ RepS X.K X.mg g1 S1 H1 ∧ RepE X.K g1 sp σ ∧ RepV X.K g1 a b ∧ Post X g1 R2 (ExcT X g1 sp) (f a S1) Q) :=
  ⟨g, sp, S, hS, hE, (Post.seq h).imp (fun _ _ x => x) fun _ _ ⟨a, g1, S1, l, q1, q2, q3⟩ => ⟨a, g1, S1, l, q1, hE.mono l, q2, q3⟩⟩
theorem rdT.fst {ta : St'} {sp : Sl} {S : Sto} {g : Gh} {σ : L2.St} {H : Hp} {R2 : Gh → γ → δ → Prop} {f : Bool → Sto → Out γ} {Q : δ → Hp → Prop} (hS : RepS X.K X.mg g S H) (hE : RepE X.K g sp σ)
    (h : Post X g R2 (ExcT X g sp) ((ta sp S).bind f) Q) :
    rdT X ta σ H (fun b H1 => ∃ g1 S1, g.le g1 ∧ RepS X.K X.mg g1 S1 H1 ∧ RepE X.K g1 sp σ ∧ Post X g1 R2 (ExcT X g1 sp) (f b S1) Q) :=
  ⟨g, sp, S, hS, hE, (Post.seq h).imp (fun _ _ x => x) fun _ _ ⟨a, g1, S1, l, q1, q2, q3⟩ => ⟨g1, S1, l, q1, hE.mono l, by rw [← q2]; exact q3⟩⟩
theorem rdA.fst {ta : Sa} {sp : Sl} {S : Sto} {g : Gh} {σ : L2.St} {H : Hp} {R2 : Gh → γ → δ → Prop} {f : List PV → Sto → Out γ} {Q : δ → Hp → Prop} (hS : RepS X.K X.mg g S H) (hE : RepE X.K g sp σ)
    (h : Post X g R2 (ExcT X g sp) ((ta sp S).bind f) Q) :
    rdA X ta σ H (fun b H1 => ∃ a g1 S1, g.le g1 ∧ RepS X.K X.mg g1 S1 H1 ∧ RepE X.K g1 sp σ ∧ RepVs X.K g1 a b ∧ Post X g1 R2 (ExcT X g1 sp) (f a S1) Q) :=
  ⟨g, sp, S, hS, hE, (Post.seq h).imp (fun _ _ x => x) fun _ _ ⟨a, g1, S1, l, q1, q2, q3⟩ => ⟨a, g1, S1, l, q1, hE.mono l, q2, q3⟩⟩
/-- an outcome reached -/
theorem Post.ok {g : Gh} {R : Gh → α → β → Prop} {E : EX → Sto → Prop} {a : α} {b : β} {S : Sto} {H : Hp} {Q : β → Hp → Prop} (h : Post X g R E (.ok a S) Q) {g' : Gh} (l : g.le g') (hS : RepS X.K X.mg g' S H) (r : R g' a b) : Q b H := h b H g' l hS r
end
end MX

end

section
/-! Rules for expressions, tests, arguments, statements. -/
namespace MX
open PySem PySem.Spec PyProof.Rows L2
section
variable {X : Cx}
theorem rdE.mono {t : Sx} {σ : L2.St} {H : Hp} {Q Q' : VK} (h : rdE X t σ H Q) (i : ∀ b H, Q b H → Q' b H) : rdE X t σ H Q' := by
  obtain ⟨g, sp, S, hS, hE, p⟩ := h
  exact ⟨g, sp, S, hS, hE, p.imp (fun _ _ x => x) i⟩
theorem rdT.mono {t : St'} {σ : L2.St} {H : Hp} {Q Q' : Bool → Hp → Prop} (h : rdT X t σ H Q) (i : ∀ b H, Q b H → Q' b H) : rdT X t σ H Q' := by
  obtain ⟨g, sp, S, hS, hE, p⟩ := h
  exact ⟨g, sp, S, hS, hE, p.imp (fun _ _ x => x) i⟩
theorem rdA.mono {t : Sa} {σ : L2.St} {H : Hp} {Q Q' : List V → Hp → Prop} (h : rdA X t σ H Q) (i : ∀ b H, Q b H → Q' b H) : rdA X t σ H Q' := by
  obtain ⟨g, sp, S, hS, hE, p⟩ := h
  exact ⟨g, sp, S, hS, hE, p.imp (fun _ _ x => x) i⟩
end

/-! ### operations on values -/
abbrev V1 := PV → Sto → Option (PV × Sto)
abbrev V2 := PV → PV → Sto → Option (PV × Sto)
abbrev VN := List PV → Sto → Option (PV × Sto)
@[reducible] def Out.of {α : Type} (o : Option (α × Sto)) : Out α := match o with
  | some (a, S) => .ok a S
  | none => .stuck
section
variable (X : Cx)
def PostO {α β : Type} (g : Gh) (R : Gh → α → β → Prop) (o : Option (α × Sto)) (Q : β → Hp → Prop) : Prop := match o with
  | some (a, S) => ∀ b H g', g.le g' → RepS X.K X.mg g' S H → R g' a b → Q b H
  | none => False
def rV1 (o : V1) : V → Hp → VK → Prop := fun x H Q => ∃ g S a, RepS X.K X.mg g S H ∧ RepV X.K g a x ∧ PostO X g (RepV X.K) (o a S) Q
def rV2 (o : V2) : R2 := fun x y H Q => ∃ g S a b, RepS X.K X.mg g S H ∧ RepV X.K g a x ∧ RepV X.K g b y ∧ PostO X g (RepV X.K) (o a b S) Q
def rVN (o : VN) : List V → Hp → VK → Prop := fun xs H Q => ∃ g S as, RepS X.K X.mg g S H ∧ RepVs X.K g as xs ∧ PostO X g (RepV X.K) (o as S) Q
end
section
variable {X : Cx} {α β : Type}
theorem Post.of {g : Gh} {R : Gh → α → β → Prop} {E : EX → Sto → Prop} {o : Option (α × Sto)} {Q : β → Hp → Prop} (h : Post X g R E (.of o) Q) : PostO X g R o Q := by
  cases o with
  | none => exact h
  | some p => obtain ⟨a, S⟩ := p; exact h
theorem PostO.ok {g : Gh} {R : Gh → α → β → Prop} {a : α} {S : Sto} {Q : β → Hp → Prop} (h : PostO X g R (some (a, S)) Q) {b : β} {H : Hp} {g' : Gh} (l : g.le g') (hS : RepS X.K X.mg g' S H) (r : R g' a b) : Q b H := h b H g' l hS r
/-- the same store -/
theorem PostO.now {g : Gh} {R : Gh → α → β → Prop} {a : α} {S : Sto} {Q : β → Hp → Prop} (h : PostO X g R (some (a, S)) Q) {b : β} {H : Hp} (hS : RepS X.K X.mg g S H) (r : R g a b) : Q b H := h b H g (.refl g) hS r
/-- a new tuple -/
theorem PostO.tup {g : Gh} {xs : List PV} {vs : List V} {S : Sto} {Q : VK} {H : Hp} (h : PostO X g (RepV X.K) (some (.tup xs, S)) Q) (hS : RepS X.K X.mg g S H) (r : RepVs X.K g xs vs) : ∀ p, H p = none → Q (.ref p) (upd H p (.tup vs)) := fun p hp => by
  obtain ⟨h1, l⟩ := hS.froze (o := .tup vs) hp
  exact h _ _ _ l h1 ⟨p, vs, rfl, .inl (.inl upd_same), RepVs.mono l _ _ r⟩
/-- a new list that stays -/
theorem PostO.lst {g : Gh} {xs : List PV} {vs : List V} {S : Sto} {Q : VK} {H : Hp} (h : PostO X g (RepV X.K) (some (.lst xs, S)) Q) (hS : RepS X.K X.mg g S H) (r : RepVs X.K g xs vs) : ∀ p, H p = none → Q (.ref p) (upd H p (.lst vs)) := fun p hp => by
  obtain ⟨h1, l⟩ := hS.froze (o := .lst vs) hp
  exact h _ _ _ l h1 ⟨p, vs, rfl, .inl (.inl upd_same), RepVs.mono l _ _ r⟩
/-- a new list of the store -/
theorem PostO.new {g : Gh} {xs : List PV} {vs : List V} {S : Sto} {Q : VK} {H : Hp} (h : PostO X g (RepV X.K) (some (.ref S.length, S ++ [.lst xs])) Q) (hS : RepS X.K X.mg g S H) (r : RepVs X.K g xs vs) : ∀ p, H p = none → Q (.ref p) (upd H p (.lst vs)) := fun p hp => by
  obtain ⟨h1, l⟩ := hS.push (so := .lst xs) (o := .lst vs) hp ⟨vs, upd_same, r⟩
  exact h _ _ _ l h1 ⟨p, rfl, by show (g.m ++ [p])[S.length]? = some p; rw [← hS.len]; simp⟩
end

section
variable {X : Cx} {a b c e : Expr} {ta tb tc te : Sx} {pos : Pos} {es : List Expr} {tA tB : St'}
/-! ### names, constants -/
def sxVar (i : Nat) : Sx := fun sp S => match sp[i]? with
  | some (some v) => .ok v S
  | _ => .stuck
def sxC (v : PV) : Sx := fun _ S => .ok v S
theorem se_var (i : Nat) {x : Str} (hN : X.N[i]? = some x := by rfl) (hv : Vis X.env.scope x := by first | exact Or.inl rfl | exact Or.inr (Or.inl rfl) | exact Or.inr (Or.inr rfl)) (hd : (x == ("__debug__" : Str)) = false := by decide)
    (hcd : (x == ("__classdict__" : Str)) = false := by decide) : PE X (.Name x pos) (rdE X (sxVar i)) := by
  refine (pe_var hN hv hd hcd).imp fun σ H Q ⟨g, sp, S, hS, hE, h⟩ => ?_
  unfold sxVar at h
  split at h
  · rename_i v e
    obtain ⟨u, e1, r⟩ := hE.get i v e
    exact ⟨u, e1, h u H g (.refl g) hS r⟩
  · exact h.elim
theorem se_c {t : V} {v : PV} (h : PE X e (tC t)) (r : ∀ g, RepV X.K g v t) : PE X e (rdE X (sxC v)) := h.imp fun σ H Q ⟨g, sp, S, hS, hE, h⟩ => h t H g (.refl g) hS (r g)
theorem se_int {i j} : PE X (.Constant (.int i) j pos) (rdE X (sxC (.int i))) := se_c pe_int fun _ => rfl
theorem se_bl {b j} : PE X (.Constant (.bool b) j pos) (rdE X (sxC (.bl b))) := se_c pe_bl fun _ => rfl
theorem se_non {j} : PE X (.Constant .none j pos) (rdE X (sxC .non)) := se_c pe_non fun _ => rfl
theorem se_str {x j} : PE X (.Constant (.str x) j pos) (rdE X (sxC (.str x))) := se_c pe_str fun _ => rfl
/-- a module's constant -/
theorem se_glob {x : Str} {v : V} {u : Value} {pv : PV} (hg : Gl X x) (hm : X.mg x = some u) (r : RelV v u) (hr : ∀ g, RepV X.K g pv v) (hd : (x == ("__debug__" : Str)) = false := by decide) : PE X (.Name x pos) (rdE X (sxC pv)) := se_c (pe_glob hg hm r hd) hr

/-! ### operators -/
def sx1 (o : V1) (ta : Sx) : Sx := fun sp S => (ta sp S).bind fun a S1 => .of (o a S1)
def sx2 (o : V2) (ta tb : Sx) : Sx := fun sp S => (ta sp S).bind fun a S1 => (tb sp S1).bind fun b S2 => .of (o a b S2)
theorem rd1 {o : V1} {σ : L2.St} {H : Hp} {Q : VK} (h : rdE X (sx1 o ta) σ H Q) : rdE X ta σ H fun x H1 => rV1 X o x H1 Q := by
  obtain ⟨g, sp, S, hS, hE, p⟩ := h
  exact (rdE.fst hS hE p).mono fun x H1 ⟨a, g1, S1, l1, q1, e1, r1, p1⟩ => ⟨g1, S1, a, q1, r1, Post.of p1⟩
theorem rd2 {o : V2} {σ : L2.St} {H : Hp} {Q : VK} (h : rdE X (sx2 o ta tb) σ H Q) : tOp (rV2 X o) (rdE X ta) (rdE X tb) σ H Q := by
  obtain ⟨g, sp, S, hS, hE, p⟩ := h
  refine (rdE.fst hS hE p).mono fun x H1 ⟨a, g1, S1, l1, q1, e1, r1, p1⟩ => ?_
  refine (rdE.fst q1 e1 p1).mono fun y H2 ⟨b, g2, S2, l2, q2, e2, r2, p2⟩ => ?_
  exact ⟨g2, S2, a, b, q2, RepV.mono l2 _ _ r1, r2, Post.of p2⟩
abbrev Op2 (X : Cx) (f : Value → Value → Sem Value) (o : V2) : Prop := OpR X f (rV2 X o)
abbrev Un1 (X : Cx) (f : Value → Sem Value) (o : V1) : Prop := UnR X f (rV1 X o)
theorem se_bin {op : Operator} {o : V2} (ho : Op2 X (binaryOp op) o) (ha : PE X a (rdE X ta)) (hb : PE X b (rdE X tb)) : PE X (.BinOp a op b pos) (rdE X (sx2 o ta tb)) := (pe_op ho ha hb).imp fun _ _ _ => rd2
theorem se_un {op : UnaryOp} {o : V1} (ho : Un1 X (unaryOp op) o) (ha : PE X a (rdE X ta)) : PE X (.UnaryOp op a pos) (rdE X (sx1 o ta)) := (pe_un ho ha).imp fun _ _ _ => rd1
theorem se_cmp {op : CmpOp} {o : V2} (ho : Op2 X (compareOp op) o) (ha : PE X a (rdE X ta)) (hb : PE X b (rdE X tb)) (hm : behindInMarks op b = false := by first | exact nomark _ | rfl | with_unfolding_all rfl) : PE X (.Compare a [op] [b] pos) (rdE X (sx2 o ta tb)) := (pe_cmpR ho ha hb hm).imp fun _ _ _ => rd2
/-- a value that must be a truth value -/
def stB (t : Sx) : St' := fun sp S => (t sp S).bind fun v S1 => match v with
  | .bl b => .ok b S1
  | _ => .stuck
theorem rdB {t : Sx} {σ : L2.St} {H : Hp} {Q : Bool → Hp → Prop} (h : rdT X (stB t) σ H Q) : rdE X t σ H fun x H' => ∃ k, x = .bl k ∧ Q k H' := by
  obtain ⟨g, sp, S, hS, hE, p⟩ := h
  refine (rdE.fst hS hE p).mono fun x H1 ⟨a, g1, S1, l1, q1, e1, r1, p1⟩ => ?_
  cases a with
  | bl k => exact ⟨k, r1, p1 k H1 g1 (.refl _) q1 rfl⟩
  | _ => exact p1.elim
theorem st_cmp {op : CmpOp} {o : V2} (ho : Op2 X (compareOp op) o) (ha : PE X a (rdE X ta)) (hb : PE X b (rdE X tb)) (hm : behindInMarks op b = false := by first | exact nomark _ | rfl | with_unfolding_all rfl) : PT X (.Compare a [op] [b] pos) (rdT X (stB (sx2 o ta tb))) :=
  (pt_cmpR ho ha hb hm).imp fun _ _ _ h => (rdB h |> fun (q : rdE X (sx2 o ta tb) _ _ _) => rd2 q)
/-- an expression whose test is its value's truth, a truth value -/
theorem st_val (ha : PE X a (rdE X ta)) (he : ∀ whole, isTrue a X.env whole = (do let v ← whole; standAt a.pos; holding [v] (truthy v)) := by intro _; rfl) : PT X a (rdT X (stB ta)) :=
  (pt_val ha he).imp fun _ _ _ h => rdB h
/-- a op b op' c -/
def sxChain (o o' : V2) (ta tb tc : Sx) : Sx := fun sp S => (ta sp S).bind fun a S1 => (tb sp S1).bind fun b S2 => (Out.of (o a b S2)).bind fun z S3 => match z with
  | .bl true => (tc sp S3).bind fun c S4 => .of (o' b c S4)
  | .bl false => .ok (.bl false) S3
  | _ => .stuck
theorem Post.ofSeq {α β γ δ : Type} {g : Gh} {R : Gh → α → β → Prop} {R2 : Gh → γ → δ → Prop} {sp : Sl} {o : Option (α × Sto)} {f : α → Sto → Out γ} {Q : δ → Hp → Prop} (h : Post X g R2 (ExcT X g sp) ((Out.of o).bind f) Q) :
    PostO X g R o (fun b H1 => ∃ a g1 S1, g.le g1 ∧ RepS X.K X.mg g1 S1 H1 ∧ R g1 a b ∧ Post X g1 R2 (ExcT X g1 sp) (f a S1) Q) := Post.of (Post.seq h)
theorem rdChain {o o' : V2} {σ : L2.St} {H : Hp} {Q : VK} (h : rdE X (sxChain o o' ta tb tc) σ H Q) : tChain (rV2 X o) (rV2 X o') (rdE X ta) (rdE X tb) (rdE X tc) σ H Q := by
  obtain ⟨g, sp, S, hS, hE, p⟩ := h
  refine (rdE.fst hS hE p).mono fun x H1 ⟨a, g1, S1, l1, q1, e1, r1, p1⟩ => ?_
  refine (rdE.fst q1 e1 p1).mono fun y H2 ⟨b, g2, S2, l2, q2, e2, r2, p2⟩ => ?_
  refine ⟨g2, S2, a, b, q2, RepV.mono l2 _ _ r1, r2, ?_⟩
  have p3 := Post.ofSeq (R := RepV X.K) p2
  cases h3 : o a b S2 with
  | none => rw [h3] at p3; exact p3.elim
  | some q =>
    obtain ⟨z, S3⟩ := q
    rw [h3] at p3
    intro z' H3 g3 l3 q3 r3
    obtain ⟨z2, g4, S4, l4, q4, r4, p4⟩ := p3 z' H3 g3 l3 q3 r3
    cases z2 with
    | bl k =>
      refine ⟨k, r4, ?_⟩
      cases k with
      | true =>
        refine iteT ?_
        refine (rdE.fst q4 (e2.mono (l4)) p4).mono fun w H4 ⟨c, g5, S5, l5, q5, e5, r5, p5⟩ => ?_
        exact ⟨g5, S5, b, c, q5, RepV.mono (l4.trans l5) _ _ r2, r5, Post.of p5⟩
      | false => exact iteF (p4 _ H3 g4 (.refl _) q4 rfl)
    | _ => exact p4.elim
theorem se_chain {op op' : CmpOp} {o o' : V2} (ho : Op2 X (compareOp op) o) (ho' : Op2 X (compareOp op') o') (ha : PE X a (rdE X ta)) (hb : PE X b (rdE X tb)) (hc : PE X c (rdE X tc)) (hm : lastMarks [op, op'] [b, c] = false := by with_unfolding_all rfl) :
    PE X (.Compare a [op, op'] [b, c] pos) (rdE X (sxChain o o' ta tb tc)) := (pe_chain ho ho' ha hb hc hm).imp fun _ _ _ => rdChain
theorem st_chain {op op' : CmpOp} {o o' : V2} (ho : Op2 X (compareOp op) o) (ho' : Op2 X (compareOp op') o') (ha : PE X a (rdE X ta)) (hb : PE X b (rdE X tb)) (hc : PE X c (rdE X tc)) (hm : lastMarks [op, op'] [b, c] = false := by with_unfolding_all rfl) :
    PT X (.Compare a [op, op'] [b, c] pos) (rdT X (stB (sxChain o o' ta tb tc))) := (pt_chain ho ho' ha hb hc hm).imp fun _ _ _ h => (rdB h |> fun (q : rdE X (sxChain o o' ta tb tc) _ _ _) => rdChain q)

/-! ### and, or, not, if -/
def stAnd (t u : St') : St' := fun sp S => (t sp S).bind fun c S1 => if c = true then u sp S1 else .ok false S1
def stOr (t u : St') : St' := fun sp S => (t sp S).bind fun c S1 => if c = true then .ok true S1 else u sp S1
def stNot (t : St') : St' := fun sp S => (t sp S).bind fun c S1 => .ok (!c) S1
variable {rest : List Expr}
theorem st_and1 (ha : PT X a (rdT X tA)) : PW X (.BoolOp .And [a] pos) (rdT X tA) := pw_and1 ha
theorem st_or1 (ha : PT X a (rdT X tA)) : PW X (.BoolOp .Or [a] pos) (rdT X tA) := pw_or1 ha
theorem st_and (ha : PT X a (rdT X tA)) (hb : PW X (.BoolOp .And (b :: rest) pos) (rdT X tB)) : PW X (.BoolOp .And (a :: b :: rest) pos) (rdT X (stAnd tA tB)) := (pw_and ha hb).imp fun σ H Q ⟨g, sp, S, hS, hE, p⟩ => by
  refine (rdT.fst hS hE p).mono fun c H1 ⟨g1, S1, l1, q1, e1, p1⟩ => ?_
  cases c with
  | true => exact iteT ⟨g1, sp, S1, q1, e1, p1⟩
  | false => exact iteF (p1 false H1 g1 (.refl _) q1 rfl)
theorem st_or (ha : PT X a (rdT X tA)) (hb : PW X (.BoolOp .Or (b :: rest) pos) (rdT X tB)) : PW X (.BoolOp .Or (a :: b :: rest) pos) (rdT X (stOr tA tB)) := (pw_or ha hb).imp fun σ H Q ⟨g, sp, S, hS, hE, p⟩ => by
  refine (rdT.fst hS hE p).mono fun c H1 ⟨g1, S1, l1, q1, e1, p1⟩ => ?_
  cases c with
  | true => exact iteT (p1 true H1 g1 (.refl _) q1 rfl)
  | false => exact iteF ⟨g1, sp, S1, q1, e1, p1⟩
theorem st_not (ha : PT X a (rdT X tA)) : PT X (.UnaryOp .Not a pos) (rdT X (stNot tA)) := (pt_not ha).imp fun σ H Q ⟨g, sp, S, hS, hE, p⟩ => by
  exact (rdT.fst hS hE p).mono fun c H1 ⟨g1, S1, l1, q1, e1, p1⟩ => p1 _ H1 g1 (.refl _) q1 rfl
def sxAnd (ta tb : Sx) : Sx := fun sp S => (ta sp S).bind fun v S1 => match v with
  | .bl true => tb sp S1
  | .bl false => .ok (.bl false) S1
  | _ => .stuck
def sxOr (ta tb : Sx) : Sx := fun sp S => (ta sp S).bind fun v S1 => match v with
  | .bl true => .ok (.bl true) S1
  | .bl false => tb sp S1
  | _ => .stuck
def sxNot (ta : Sx) : Sx := fun sp S => (ta sp S).bind fun v S1 => match v with
  | .bl k => .ok (.bl (!k)) S1
  | _ => .stuck
theorem se_one {op} (h : PE X a (rdE X ta)) : PE X (.BoolOp op [a] pos) (rdE X ta) := pe_one h
theorem se_and (ha : PE X a (rdE X ta)) (hb : PE X (.BoolOp .And (b :: rest) pos) (rdE X tb)) : PE X (.BoolOp .And (a :: b :: rest) pos) (rdE X (sxAnd ta tb)) := (pe_and ha hb).imp fun σ H Q ⟨g, sp, S, hS, hE, p⟩ => by
  refine (rdE.fst hS hE p).mono fun x H1 ⟨v, g1, S1, l1, q1, e1, r1, p1⟩ => ?_
  cases v with
  | bl k =>
    refine ⟨k, r1, ?_⟩
    cases k with
    | true => exact iteT ⟨g1, sp, S1, q1, e1, p1⟩
    | false => exact iteF (p1 _ H1 g1 (.refl _) q1 rfl)
  | _ => exact p1.elim
theorem se_or (ha : PE X a (rdE X ta)) (hb : PE X (.BoolOp .Or (b :: rest) pos) (rdE X tb)) : PE X (.BoolOp .Or (a :: b :: rest) pos) (rdE X (sxOr ta tb)) := (pe_or ha hb).imp fun σ H Q ⟨g, sp, S, hS, hE, p⟩ => by
  refine (rdE.fst hS hE p).mono fun x H1 ⟨v, g1, S1, l1, q1, e1, r1, p1⟩ => ?_
  cases v with
  | bl k =>
    refine ⟨k, r1, ?_⟩
    cases k with
    | true => exact iteT (p1 _ H1 g1 (.refl _) q1 rfl)
    | false => exact iteF ⟨g1, sp, S1, q1, e1, p1⟩
  | _ => exact p1.elim
theorem se_not (ha : PE X a (rdE X ta)) : PE X (.UnaryOp .Not a pos) (rdE X (sxNot ta)) := (pe_not ha).imp fun σ H Q ⟨g, sp, S, hS, hE, p⟩ => by
  refine (rdE.fst hS hE p).mono fun x H1 ⟨v, g1, S1, l1, q1, e1, r1, p1⟩ => ?_
  cases v with
  | bl k => exact ⟨k, r1, p1 _ H1 g1 (.refl _) q1 rfl⟩
  | _ => exact p1.elim
def sxIf (t : St') (ta tb : Sx) : Sx := fun sp S => (t sp S).bind fun c S1 => if c = true then ta sp S1 else tb sp S1
theorem se_if (hc : PT X c (rdT X tA)) (ha : PE X a (rdE X ta)) (hb : PE X b (rdE X tb)) : PE X (.IfExp c a b pos) (rdE X (sxIf tA ta tb)) := (pe_ifExp hc ha hb).imp fun σ H Q ⟨g, sp, S, hS, hE, p⟩ => by
  refine (rdT.fst hS hE p).mono fun k H1 ⟨g1, S1, l1, q1, e1, p1⟩ => ?_
  cases k with
  | true => exact iteT ⟨g1, sp, S1, q1, e1, p1⟩
  | false => exact iteF ⟨g1, sp, S1, q1, e1, p1⟩

/-! ### arguments, displays, calls of built-ins -/
def saNil : Sa := fun _ S => .ok [] S
def saCons (ta : Sx) (tr : Sa) : Sa := fun sp S => (ta sp S).bind fun a S1 => (tr sp S1).bind fun as S2 => .ok (a :: as) S2
variable {tr : Sa}
theorem sa_nil : PA X [] (rdA X saNil) := pa_nil.imp fun σ H Q ⟨g, sp, S, hS, hE, p⟩ => p [] H g (.refl _) hS rfl
theorem sa_cons (ha : PE X e (rdE X te)) (hr : PA X es (rdA X tr)) (hs : starEach (e :: es) X.env = (false, eval e X.env) :: starEach es X.env := by rfl) : PA X (e :: es) (rdA X (saCons te tr)) := (pa_cons ha hr hs).imp fun σ H Q ⟨g, sp, S, hS, hE, p⟩ => by
  refine (rdE.fst hS hE p).mono fun x H1 ⟨a, g1, S1, l1, q1, e1, r1, p1⟩ => ?_
  refine (rdA.fst q1 e1 p1).mono fun xs H2 ⟨as, g2, S2, l2, q2, e2, r2, p2⟩ => ?_
  exact p2 _ H2 g2 (.refl _) q2 (.cons (RepV.mono l2 _ _ r1) r2)
def sxN (o : VN) (t : Sa) : Sx := fun sp S => (t sp S).bind fun as S1 => .of (o as S1)
theorem rdN {o : VN} {t : Sa} {σ : L2.St} {H : Hp} {Q : VK} (h : rdE X (sxN o t) σ H Q) : rdA X t σ H fun xs H1 => rVN X o xs H1 Q := by
  obtain ⟨g, sp, S, hS, hE, p⟩ := h
  exact (rdA.fst hS hE p).mono fun xs H1 ⟨as, g1, S1, l1, q1, e1, r1, p1⟩ => ⟨g1, S1, as, q1, r1, Post.of p1⟩
/-- displays -/
def vTup : VN := fun as S => if as.length ≤ sizeLine then some (.tup as, S) else none
def vLst : VN := fun as S => if as.length ≤ sizeLine then some (.lst as, S) else none
def vNew : VN := fun as S => if as.length ≤ sizeLine then some (.ref S.length, S ++ [.lst as]) else none
theorem se_tup {k} (h : PA X es (rdA X tr)) : PE X (.Tuple es k pos) (rdE X (sxN vTup tr)) := (pe_tup h).imp fun σ H Q q => (rdN q).mono fun xs H1 ⟨g1, S1, as, q1, r1, p1⟩ => by
  unfold vTup at p1
  split at p1
  · rename_i hl
    exact ⟨by rw [← r1.length]; exact hl, p1.tup q1 r1⟩
  · exact p1.elim
theorem se_lst (h : PA X es (rdA X tr)) : PE X (.List es pos) (rdE X (sxN vLst tr)) := (pe_lst h).imp fun σ H Q q => (rdN q).mono fun xs H1 ⟨g1, S1, as, q1, r1, p1⟩ => by
  unfold vLst at p1
  split at p1
  · rename_i hl
    exact ⟨by rw [← r1.length]; exact hl, p1.lst q1 r1⟩
  · exact p1.elim
theorem se_new (h : PA X es (rdA X tr)) : PE X (.List es pos) (rdE X (sxN vNew tr)) := (pe_lst h).imp fun σ H Q q => (rdN q).mono fun xs H1 ⟨g1, S1, as, q1, r1, p1⟩ => by
  unfold vNew at p1
  split at p1
  · rename_i hl
    exact ⟨by rw [← r1.length]; exact hl, p1.new q1 r1⟩
  · exact p1.elim
abbrev CallN (X : Cx) (f : Value) (o : VN) : Prop := CallR X f (rVN X o)
variable {id T : String} {x : Str} {p : Pos}
theorem se_callB {o : VN} (hc : CallN X (.builtin id) o) (hg : Gl X x) (hm : X.mg x = none) (hv : bootBuiltins x = some (.builtin id)) (ha : PA X (e :: es) (rdA X tr)) (hn : x ≠ "__name__" := by decide) (hdb : (x == ("__debug__" : Str)) = false := by decide)
    (he : starEach (e :: es) X.env = (false, eval e X.env) :: starEach es X.env := by rfl) (hpl : (backTo pos (starEach es X.env)).any (·.1) = false := by rfl) : PE X (.Call (.Name x p) (e :: es) [] pos) (rdE X (sxN o tr)) :=
  (pe_callB hc hg hm hv ha hn hdb he hpl).imp fun _ _ _ => rdN
theorem se_callTy {o : VN} (hc : CallN X (.type T) o) (hg : Gl X x) (hm : X.mg x = none) (hv : bootBuiltins x = some (.type T)) (ha : PA X (e :: es) (rdA X tr)) (hn : x ≠ "__name__" := by decide) (hdb : (x == ("__debug__" : Str)) = false := by decide)
    (he : starEach (e :: es) X.env = (false, eval e X.env) :: starEach es X.env := by rfl) (hpl : (backTo pos (starEach es X.env)).any (·.1) = false := by rfl) : PE X (.Call (.Name x p) (e :: es) [] pos) (rdE X (sxN o tr)) :=
  (pe_callTy hc hg hm hv ha hn hdb he hpl).imp fun _ _ _ => rdN
/-- a subscript -/
abbrev Ix2 (X : Cx) (o : V2) : Prop := IxR X (rV2 X o)
theorem se_ix {o : V2} (hr : Ix2 X o) (ha : PE X a (rdE X ta)) (hb : PE X b (rdE X tb)) (hs : PlainIx b := by exact fun _ _ => rfl) : PE X (.Subscript a b pos) (rdE X (sx2 o ta tb)) := (pe_ix hr ha hb hs).imp fun _ _ _ => rd2
/-- a slice's part -/
abbrev So := Sl → Sto → Out (Option Int)
def rdO (X : Cx) (t : So) : TO := fun σ H Q => ∃ g sp S, RepS X.K X.mg g S H ∧ RepE X.K g sp σ ∧ Post X g (fun _ a b => a = b) (ExcT X g sp) (t sp S) Q
def soNo : So := fun _ S => .ok none S
def soPart (t : Sx) : So := fun sp S => (t sp S).bind fun v S1 => match v with
  | .int i => .ok (some i) S1
  | _ => .stuck
theorem _root_.L2.PO.imp {o : Option Expr} {t t' : TO} (h : PO X o t) (i : ∀ σ H Q, t' σ H Q → t σ H Q) : PO X o t' := ⟨fun pins s σ H Q I q => h.run pins s σ H Q I (i _ _ _ q)⟩
theorem so_no : PO X none (rdO X soNo) := po_none.imp fun σ H Q ⟨g, sp, S, hS, hE, p⟩ => p none H g (.refl _) hS rfl
theorem so_part (h : PE X e (rdE X te)) : PO X (some e) (rdO X (soPart te)) := (po_some h).imp fun σ H Q ⟨g, sp, S, hS, hE, p⟩ => by
  refine (rdE.fst hS hE p).mono fun x H1 ⟨a, g1, S1, l1, q1, e1, r1, p1⟩ => ?_
  cases a with
  | int i => exact ⟨i, r1, p1 _ H1 g1 (.refl _) q1 rfl⟩
  | _ => exact p1.elim
abbrev VS := PV → Option Int → Option Int → Sto → Option (PV × Sto)
def rVS (X : Cx) (o : VS) : V → Option Int → Option Int → Hp → VK → Prop := fun x lo hi H Q => ∃ g S a, RepS X.K X.mg g S H ∧ RepV X.K g a x ∧ PostO X g (RepV X.K) (o a lo hi S) Q
def sxSl (o : VS) (ta : Sx) (tl th : So) : Sx := fun sp S => (ta sp S).bind fun a S1 => (tl sp S1).bind fun lo S2 => (th sp S2).bind fun hi S3 => .of (o a lo hi S3)
theorem rdO.fst {γ δ : Type} {ta : So} {sp : Sl} {S : Sto} {g : Gh} {σ : L2.St} {H : Hp} {R2 : Gh → γ → δ → Prop} {f : Option Int → Sto → Out γ} {Q : δ → Hp → Prop} (hS : RepS X.K X.mg g S H) (hE : RepE X.K g sp σ)
    (h : Post X g R2 (ExcT X g sp) ((ta sp S).bind f) Q) {Q' : Option Int → Hp → Prop} (i : ∀ b H1, (∃ g1 S1, g.le g1 ∧ RepS X.K X.mg g1 S1 H1 ∧ RepE X.K g1 sp σ ∧ Post X g1 R2 (ExcT X g1 sp) (f b S1) Q) → Q' b H1) : rdO X ta σ H Q' :=
  ⟨g, sp, S, hS, hE, (Post.seq h).imp (fun _ _ x => x) fun b H1 ⟨a, g1, S1, l, q1, q2, q3⟩ => i b H1 ⟨g1, S1, l, q1, hE.mono l, by rw [← q2]; exact q3⟩⟩
theorem se_sl {o : VS} {lo hi : Option Expr} {tl th : So} {p2 : Pos} (hr : SlR X (rVS X o)) (he : PE X e (rdE X te)) (hl : PO X lo (rdO X tl)) (hu : PO X hi (rdO X th)) : PE X (.Subscript e (.Slice lo hi none p2) pos) (rdE X (sxSl o te tl th)) :=
  (pe_slice hr he hl hu).imp fun σ H Q ⟨g, sp, S, hS, hE, p⟩ => by
    refine (rdE.fst hS hE p).mono fun x H1 ⟨a, g1, S1, l1, q1, e1, r1, p1⟩ => ?_
    refine rdO.fst q1 e1 p1 fun l H2 ⟨g2, S2, l2, q2, e2, p2⟩ => ?_
    refine rdO.fst q2 e2 p2 fun u H3 ⟨g3, S3, l3, q3, e3, p3⟩ => ?_
    exact ⟨g3, S3, a, q3, RepV.mono (l2.trans l3) _ _ r1, Post.of p3⟩
end

/-! ### statements -/
@[reducible] def bindS {α : Type} (o : Out α) (sp : Sl) (f : α → Sto → SOut) : SOut := match o with
  | .ok a S => f a S
  | .exc x S => .exc x sp S
  | .stuck => .stuck
section
variable {X : Cx} {st : Stmt} {rest : List Stmt} {t u : Ss} {e : Expr} {te : Sx} {pos : Pos} {D : Ends}
theorem PostS.le {g g1 : Gh} {o : SOut} (h : PostS X g o D) (l : g.le g1) : PostS X g1 o D := by
  cases o with
  | nx sp S => exact fun σ H g' l' => h σ H g' (l.trans l')
  | rt x S => exact fun σ H g' l' => h σ H g' (l.trans l')
  | bk sp S => exact fun σ H g' l' => h σ H g' (l.trans l')
  | ct sp S => exact fun σ H g' l' => h σ H g' (l.trans l')
  | exc x sp S => exact ExcT.mono h l
  | stuck => exact h
theorem PostS.seq {α β : Type} {g : Gh} {R : Gh → α → β → Prop} {sp : Sl} {o : Out α} {f : α → Sto → SOut} (h : PostS X g (bindS o sp f) D) :
    Post X g R (ExcT X g sp) o (fun b H1 => ∃ a g1 S1, g.le g1 ∧ RepS X.K X.mg g1 S1 H1 ∧ R g1 a b ∧ PostS X g1 (f a S1) D) := by
  cases o with
  | ok a S => exact fun b H1 g1 l hS r => ⟨a, g1, S, l, hS, r, PostS.le (show PostS X g (f a S) D from h) l⟩
  | exc x S => exact h
  | stuck => exact h
theorem rdE.sq {g : Gh} {S : Sto} {H : Hp} {σ : L2.St} {sp : Sl} {f : PV → Sto → SOut} (hS : RepS X.K X.mg g S H) (hE : RepE X.K g sp σ) (h : PostS X g (bindS (te sp S) sp f) D) :
    rdE X te σ H (fun b H1 => ∃ a g1 S1, g.le g1 ∧ RepS X.K X.mg g1 S1 H1 ∧ RepE X.K g1 sp σ ∧ RepV X.K g1 a b ∧ PostS X g1 (f a S1) D) :=
  ⟨g, sp, S, hS, hE, (PostS.seq h).imp (fun _ _ x => x) fun _ _ ⟨a, g1, S1, l, q1, q2, q3⟩ => ⟨a, g1, S1, l, q1, hE.mono l, q2, q3⟩⟩
theorem rdT.sq {tt : St'} {g : Gh} {S : Sto} {H : Hp} {σ : L2.St} {sp : Sl} {f : Bool → Sto → SOut} (hS : RepS X.K X.mg g S H) (hE : RepE X.K g sp σ) (h : PostS X g (bindS (tt sp S) sp f) D) :
    rdT X tt σ H (fun b H1 => ∃ g1 S1, g.le g1 ∧ RepS X.K X.mg g1 S1 H1 ∧ RepE X.K g1 sp σ ∧ PostS X g1 (f b S1) D) :=
  ⟨g, sp, S, hS, hE, (PostS.seq h).imp (fun _ _ x => x) fun _ _ ⟨a, g1, S1, l, q1, q2, q3⟩ => ⟨g1, S1, l, q1, hE.mono l, by rw [← q2]; exact q3⟩⟩
def ssNil : Ss := fun sp S => .nx sp S
def ssSeq (t u : Ss) : Ss := fun sp S => match t sp S with
  | .nx sp' S' => u sp' S'
  | o => o
theorem ss_nil : PSs X [] (rdS X ssNil) := pss_nil.imp fun D σ H ⟨g, sp, S, hS, hE, p⟩ => p σ H g (.refl _) hS hE
theorem ss_cons (h1 : PS X st (rdS X t)) (h2 : PSs X rest (rdS X u)) : PSs X (st :: rest) (rdS X (ssSeq t u)) := (pss_cons h1 h2).imp fun D σ H ⟨g, sp, S, hS, hE, p⟩ => by
  refine ⟨g, sp, S, hS, hE, ?_⟩
  unfold ssSeq at p
  cases h : t sp S with
  | nx sp' S' =>
    rw [h] at p
    exact fun σ' H' g' l q1 q2 => ⟨g', sp', S', q1, q2, p.le l⟩
  | rt x S' => rw [h] at p; exact p
  | bk sp' S' => rw [h] at p; exact p
  | ct sp' S' => rw [h] at p; exact p
  | exc x sp' S' => rw [h] at p; exact p
  | stuck => rw [h] at p; exact p
theorem ss_one (h1 : PS X st (rdS X t)) : PSs X [st] (rdS X t) := pss_one h1
theorem ss_pass : PS X (.Pass pos) (rdS X ssNil) := ps_pass.imp fun D σ H ⟨g, sp, S, hS, hE, p⟩ => p σ H g (.refl _) hS hE
theorem ss_doc {x j pos'} : PS X (.Expr (.Constant (.str x) j pos) pos') (rdS X ssNil) := ps_doc.imp fun D σ H ⟨g, sp, S, hS, hE, p⟩ => p σ H g (.refl _) hS hE
def ssBreak : Ss := fun sp S => .bk sp S
def ssCont : Ss := fun sp S => .ct sp S
theorem ss_break : PS X (.Break pos) (rdS X ssBreak) := ps_break.imp fun D σ H ⟨g, sp, S, hS, hE, p⟩ => p σ H g (.refl _) hS hE
theorem ss_continue : PS X (.Continue pos) (rdS X ssCont) := ps_continue.imp fun D σ H ⟨g, sp, S, hS, hE, p⟩ => p σ H g (.refl _) hS hE
/-- what is never reached -/
def ssNo : Ss := fun _ _ => .stuck
theorem ss_no : PS X st (rdS X ssNo) := ps_never.imp fun D σ H ⟨g, sp, S, hS, hE, p⟩ => p.elim
theorem sss_no {sts : List Stmt} : PSs X sts (rdS X ssNo) := pss_never.imp fun D σ H ⟨g, sp, S, hS, hE, p⟩ => p.elim
def ssExpr (te : Sx) : Ss := fun sp S => bindS (te sp S) sp fun _ S1 => .nx sp S1
theorem ss_expr (he : PE X e (rdE X te)) (hs : swapsWith e none pos.line X.env = pure false := by rfl) : PS X (.Expr e pos) (rdS X (ssExpr te)) := (ps_expr he hs).imp fun D σ H ⟨g, sp, S, hS, hE, p⟩ =>
  (rdE.sq hS hE p).mono fun x H1 ⟨a, g1, S1, l1, q1, e1, r1, p1⟩ => p1 σ H1 g1 (.refl _) q1 e1
def ssRet (te : Sx) : Ss := fun sp S => bindS (te sp S) sp fun v S1 => .rt v S1
theorem ss_ret (he : PE X e (rdE X te)) : PS X (.Return (some e) pos) (rdS X (ssRet te)) := (ps_ret he).imp fun D σ H ⟨g, sp, S, hS, hE, p⟩ =>
  (rdE.sq hS hE p).mono fun x H1 ⟨a, g1, S1, l1, q1, e1, r1, p1⟩ => p1 x H1 g1 (.refl _) q1 r1
def ssRetN : Ss := fun _ S => .rt .non S
theorem ss_retN : PS X (.Return none pos) (rdS X ssRetN) := ps_retN.imp fun D σ H ⟨g, sp, S, hS, hE, p⟩ => p .non H g (.refl _) hS rfl
def ssIf (c : St') (t u : Ss) : Ss := fun sp S => bindS (c sp S) sp fun k S1 => if k = true then t sp S1 else u sp S1
theorem ss_if {c : Expr} {as bs : List Stmt} {tc : St'} (hc : PT X c (rdT X tc)) (ha : PSs X as (rdS X t)) (hb : PSs X bs (rdS X u)) : PS X (.If c as bs pos) (rdS X (ssIf tc t u)) := (ps_if hc ha hb).imp fun D σ H ⟨g, sp, S, hS, hE, p⟩ => by
  refine (rdT.sq hS hE p).mono fun k H1 ⟨g1, S1, l1, q1, e1, p1⟩ => ?_
  cases k with
  | true => exact iteT ⟨g1, sp, S1, q1, e1, p1⟩
  | false => exact iteF ⟨g1, sp, S1, q1, e1, p1⟩
def ssSet (i : Nat) (te : Sx) : Ss := fun sp S => bindS (te sp S) sp fun v S1 => .nx (sp.set i (some v)) S1
theorem ss_set (i : Nat) {x : Str} {pos' : Pos} (hN : X.N.Nodup) (he : PE X e (rdE X te)) (hi : X.N[i]? = some x := by rfl) (hx : Loc X.env.scope x := by first | exact Or.inl rfl | exact Or.inr rfl) (hs : swapsWith e (some (.Name x pos')) pos.line X.env = pure false := by rfl) (hf : X.fn x = true ∨ X.env.scope.names.lookup x = some .local := by first | exact .inl rfl | exact .inr rfl) :
    PS X (.Assign [.Name x pos'] e pos) (rdS X (ssSet i te)) := (ps_set hN hi hx he hs hf).imp fun D σ H ⟨g, sp, S, hS, hE, p⟩ =>
  (rdE.sq hS hE p).mono fun x H1 ⟨a, g1, S1, l1, q1, e1, r1, p1⟩ => p1 _ H1 g1 (.refl _) q1 (e1.set r1 i)
end

/-! ### targets -/
/-- a target takes a value -/
abbrev Sg := PV → Sl → Sto → Option Sl
/-- but for the places is all stays -/
def Near (is : List Nat) (σ σ' : L2.St) : Prop := σ'.length = σ.length ∧ ∀ i, i ∉ is → σ'[i]? = σ[i]?
theorem Near.refl {is : List Nat} {σ : L2.St} : Near is σ σ := ⟨rfl, fun _ _ => rfl⟩
theorem Near.trans {is js : List Nat} {σ σ1 σ2 : L2.St} (a : Near is σ σ1) (b : Near js σ1 σ2) : Near (is ++ js) σ σ2 := ⟨b.1.trans a.1, fun i h => (b.2 i fun z => h (List.mem_append_right _ z)).trans (a.2 i fun z => h (List.mem_append_left _ z))⟩
def rdG (X : Cx) (is : List Nat) (t : Sg) : TG := fun v σ H Q => ∃ g sp S x sp', RepS X.K X.mg g S H ∧ RepE X.K g sp σ ∧ RepV X.K g x v ∧ t x sp S = some sp' ∧ ∀ σ' g', g.le g' → RepS X.K X.mg g' S H → RepE X.K g' sp' σ' → Near is σ σ' → Q σ' H
abbrev Sgs := List PV → Sl → Sto → Option Sl
def rdGs (X : Cx) (is : List Nat) (t : Sgs) : TGs := fun vs σ H Q => ∃ g sp S xs sp', RepS X.K X.mg g S H ∧ RepE X.K g sp σ ∧ RepVs X.K g xs vs ∧ t xs sp S = some sp' ∧ ∀ σ' g', g.le g' → RepS X.K X.mg g' S H → RepE X.K g' sp' σ' → Near is σ σ' → Q σ' H
section
variable {X : Cx} {pos : Pos} {e : Expr} {es : List Expr}
theorem _root_.L2.PG.imp {t t' : TG} (h : PG X e t) (i : ∀ v σ H Q, t' v σ H Q → t v σ H Q) : PG X e t' := ⟨fun pins s σ H v u Q I r q => h.run pins s σ H v u Q I r (i _ _ _ _ q)⟩
theorem _root_.L2.PGs.imp {t t' : TGs} (h : PGs X es t) (i : ∀ v σ H Q, t' v σ H Q → t v σ H Q) : PGs X es t' := ⟨fun pins s σ H v u Q I r q => h.run pins s σ H v u Q I r (i _ _ _ _ q)⟩
def sgName (i : Nat) : Sg := fun v sp _ => some (sp.set i (some v))
theorem sg_name (i : Nat) {x : Str} (hN : X.N.Nodup) (hi : X.N[i]? = some x := by rfl) (hx : Loc X.env.scope x := by first | exact Or.inl rfl | exact Or.inr rfl) (hf : X.fn x = true ∨ X.env.scope.names.lookup x = some .local := by first | exact .inl rfl | exact .inr rfl) : PG X (.Name x pos) (rdG X [i] (sgName i)) :=
  (pg_name hN hi hx hf).imp fun v σ H Q ⟨g, sp, S, y, sp', hS, hE, r, e, k⟩ => by
    cases e
    exact k _ g (.refl _) hS (hE.set r i) ⟨by simp, fun j hj => List.getElem?_set_ne (fun e => hj (by simp [e]))⟩
def sgNil : Sgs := fun vs sp _ => match vs with
  | [] => some sp
  | _ :: _ => none
def sgCons (t : Sg) (u : Sgs) : Sgs := fun vs sp S => match vs with
  | [] => none
  | v :: r => (t v sp S).bind fun sp1 => u r sp1 S
theorem sgs_nil : PGs X [] (rdGs X [] sgNil) := pgs_nil.imp fun vs σ H Q ⟨g, sp, S, xs, sp', hS, hE, r, e, k⟩ => by
  cases xs with
  | nil =>
    cases e
    exact ⟨r, k _ g (.refl _) hS hE .refl⟩
  | cons x xs => cases e
theorem sgs_cons {t : Sg} {u : Sgs} {is js : List Nat} (h1 : PG X e (rdG X is t)) (h2 : PGs X es (rdGs X js u))
    (hs : (assignEach (e :: es) X.env).map (·.2) = assign e X.env :: (assignEach es X.env).map (·.2) := by rfl) : PGs X (e :: es) (rdGs X (is ++ js) (sgCons t u)) := (pgs_cons h1 h2 hs).imp fun vs σ H Q ⟨g, sp, S, xs, sp', hS, hE, r, e, k⟩ => by
  cases xs with
  | nil => cases e
  | cons x xs =>
    obtain ⟨v, vr, e1, r1, r2⟩ := r
    have e' : ((t x sp S).bind fun sp1 => u xs sp1 S) = some sp' := e
    cases h : t x sp S with
    | none => rw [h] at e'; cases e'
    | some sp1 =>
      rw [h] at e'
      exact ⟨v, vr, e1, g, sp, S, x, sp1, hS, hE, r1, h, fun σ1 g1 l q1 q2 n1 => ⟨g1, sp1, S, xs, sp', q1, q2, RepVs.mono l _ _ r2, e', fun σ' g' l' q3 q4 n2 => k σ' g' (l.trans l') q3 q4 (n1.trans n2)⟩⟩
/-- (a, b, ..) = a tuple -/
def sgTup (n : Nat) (t : Sgs) : Sg := fun v sp S => match v with
  | .tup xs => if xs.length = n then t xs sp S else none
  | _ => none
theorem sg_tup {k : Nat} {t : Sgs} {n : Nat} {is : List Nat} (hc : X.calm = true) (h : PGs X es (rdGs X is t)) (hn : (assignEach es X.env).length = n := by rfl) (hst : (assignEach es X.env).findIdx? (·.1) = none := by rfl) : PG X (.Tuple es k pos) (rdG X is (sgTup n t)) :=
  (pg_tup hc h hn hst).imp fun v σ H Q ⟨g, sp, S, y, sp', hS, hE, r, e, k⟩ => by
    cases y with
    | tup xs =>
      obtain ⟨a, vs, e1, h1, r1⟩ := r
      have e' : (if xs.length = n then t xs sp S else none) = some sp' := e
      split at e'
      · rename_i hl
        exact ⟨a, vs, e1, SqT.mono hS.fz h1, by rw [← r1.length]; exact hl, g, sp, S, xs, sp', hS, hE, r1, e', k⟩
      · cases e'
    | _ => cases e
def ssAsg (te : Sx) (t : Sg) : Ss := fun sp S => bindS (te sp S) sp fun v S1 => match t v sp S1 with
  | some sp' => .nx sp' S1
  | none => .stuck
theorem ss_asg {tg : Expr} {te : Sx} {t : Sg} {is : List Nat} (he : PE X e (rdE X te)) (hg : PG X tg (rdG X is t)) (hs : swapsWithSole [tg] e pos.line X.env = pure false := by rfl) (hw : swappedStores [tg] e X.env = pure none := by rfl)
    (h1 : (assignEach [tg] X.env).map (·.2) = [assign tg X.env] := by rfl) : PS X (.Assign [tg] e pos) (rdS X (ssAsg te t)) := (ps_asg he hg hs hw h1).imp fun D σ H ⟨g, sp, S, hS, hE, p⟩ => by
  refine (rdE.sq hS hE p).mono fun x H1 ⟨a, g1, S1, l1, q1, e1, r1, p1⟩ => ?_
  cases h : t a sp S1 with
  | none => rw [h] at p1; exact p1.elim
  | some sp' =>
    rw [h] at p1
    exact ⟨g1, sp, S1, a, sp', q1, e1, r1, h, fun σ' g' l q q' _ => p1 σ' H1 g' l q q'⟩
/-- a, b = x, y with plain local names -/
def ssPar (i j : Nat) (ta : Sa) : Ss := fun sp S => bindS (ta sp S) sp fun vs S1 => match vs with
  | [v, w] => .nx ((sp.set i (some v)).set j (some w)) S1
  | _ => .stuck
theorem ss_par (i j : Nat) {x y : Str} {a b : Expr} {ta : Sa} {px py pt : Pos} {kt k2 pt2} (hc : X.calm = true) (hN : X.N.Nodup) (ha : PA X [a, b] (rdA X ta)) (hi : X.N[i]? = some x := by rfl) (hj : X.N[j]? = some y := by rfl) (hij : i ≠ j := by decide)
    (hx : X.env.scope.names.lookup x = some .local := by rfl) (hy : X.env.scope.names.lookup y = some .local := by rfl)
    (hw : swappedStores [.Tuple [.Name x px, .Name y py] kt pt] (.Tuple [a, b] k2 pt2) X.env = pure (some [x, y]) := by rfl)
    (hs : swapsWithSole [.Tuple [.Name x px, .Name y py] kt pt] (.Tuple [a, b] k2 pt2) pos.line X.env = pure false := by rfl) :
    PS X (.Assign [.Tuple [.Name x px, .Name y py] kt pt] (.Tuple [a, b] k2 pt2) pos) (rdS X (ssPar i j ta)) := (ps_par hc hN hi hj hij hx hy ha hw hs).imp fun D σ H ⟨g, sp, S, hS, hE, p⟩ => by
  refine ⟨g, sp, S, hS, hE, (PostS.seq p).imp (fun _ _ x => x) fun vs H1 ⟨as, g1, S1, l1, q1, r1, p1⟩ => ?_⟩
  match as, r1, p1 with
  | [], _, p1 => exact p1.elim
  | [_], _, p1 => exact p1.elim
  | _ :: _ :: _ :: _, _, p1 => exact p1.elim
  | [v, w], r1, p1 =>
    obtain ⟨v', r', e1, r2, w', r'', e2, r3, e3⟩ := r1
    subst e1 e2
    cases (show r'' = [] from e3)
    exact ⟨v', w', rfl, p1 _ H1 g1 (.refl _) q1 (((hE.mono l1).set r2 i).set r3 j)⟩
end
end MX

end

section
/-! Operations on values. -/
namespace MX
open PySem PySem.Spec PyProof.Rows L2

/-! ### reading lists, tuples, data -/
def listOf (S : Sto) : PV → Option (List PV)
  | .lst xs => some xs
  | .ref n => match S[n]? with
    | some (.lst xs) => some xs
    | _ => none
  | _ => none
def tupOf : PV → Option (List PV)
  | .tup xs => some xs
  | _ => none
def seqOf (S : Sto) : PV → Option (List PV)
  | .tup xs => some xs
  | .lst xs => some xs
  | .ref n => match S[n]? with
    | some (.lst xs) => some xs
    | _ => none
  | _ => none
section
variable {K : PySem.W.Frag} {mg : Str → Option Value} {g : Gh} {S : Sto} {H : Hp} {a : PV} {x : V} {xs : List PV}
theorem RepS.list (hS : RepS K mg g S H) (r : RepV K g a x) (h : listOf S a = some xs) : ∃ p vs, x = .ref p ∧ LsQ K H p vs ∧ RepVs K g xs vs := by
  cases a with
  | lst ys =>
    cases (show some ys = some xs from h)
    obtain ⟨p, vs, e, h1, h2⟩ := r
    exact ⟨p, vs, e, LsQ.mono hS.fz h1, h2⟩
  | ref n =>
    obtain ⟨p, e, h1⟩ := r
    obtain ⟨so, h2⟩ := hS.at_ h1
    unfold listOf at h
    simp only [h2] at h
    cases so with
    | lst ys =>
      cases h
      obtain ⟨vs, q1, q2⟩ := hS.ob n _ p h2 h1
      exact ⟨p, vs, e, .inl (.inl q1), q2⟩
    | _ => cases h
  | _ => cases h
theorem RepS.seq (hS : RepS K mg g S H) (r : RepV K g a x) (h : seqOf S a = some xs) : ∃ p vs, x = .ref p ∧ (SqL K H p vs ∨ SqT K H p vs) ∧ RepVs K g xs vs := by
  cases a with
  | tup ys =>
    cases (show some ys = some xs from h)
    obtain ⟨p, vs, e, h1, h2⟩ := r
    exact ⟨p, vs, e, .inr (SqT.mono hS.fz h1), h2⟩
  | lst ys =>
    obtain ⟨p, vs, e, h1, h2⟩ := hS.list r (xs := xs) h
    exact ⟨p, vs, e, .inl h1.sq, h2⟩
  | ref n =>
    obtain ⟨p, vs, e, h1, h2⟩ := hS.list r (xs := xs) h
    exact ⟨p, vs, e, .inl h1.sq, h2⟩
  | _ => cases h
end
mutual
def toD : PV → Option PyData
  | .non => some .none
  | .bl b => some (.bool b)
  | .int i => some (.int i)
  | .str x => some (.str x)
  | .tup xs => (toDs xs).map PyData.tuple
  | .lst xs => (toDs xs).map PyData.list
  | .ref _ => none
def toDs : List PV → Option (List PyData)
  | [] => some []
  | x :: xs => match toD x, toDs xs with
    | some d, some ds => some (d :: ds)
    | _, _ => none
end
/-- data, a list of the store read -/
def dOf (S : Sto) : PV → Option PyData
  | .ref n => match S[n]? with
    | some (.lst xs) => (toDs xs).map PyData.list
    | _ => none
  | v => toD v
section
variable {K : PySem.W.Frag} {mg : Str → Option Value} {g : Gh} {S : Sto} {H : Hp}
mutual
theorem toD_rep {H : Hp} (f : ∀ a o, g.fz a = some o → H a = some o) : ∀ (a : PV) (x : V) (d : PyData), RepV K g a x → toD a = some d → Dp K H x d
  | .non, _, _, r, h => by cases (show _ = V.non from r); cases (show some _ = some _ from h); exact .non
  | .bl b, _, _, r, h => by cases (show _ = V.bl b from r); cases (show some _ = some _ from h); exact .bl b
  | .int i, _, _, r, h => by cases (show _ = V.int i from r); cases (show some _ = some _ from h); exact .int i
  | .str z, _, _, r, h => by cases (show _ = V.str z from r); cases (show some _ = some _ from h); exact .str z
  | .tup xs, _, d, r, h => by
    obtain ⟨p, vs, e, h1, h2⟩ := r
    subst e
    have h' : (toDs xs).map PyData.tuple = some d := h
    cases q : toDs xs with
    | none => rw [q] at h'; cases h'
    | some ds =>
      rw [q] at h'; cases h'
      exact .tup (SqT.mono f h1) (toDs_rep f xs vs ds h2 q)
  | .lst xs, _, d, r, h => by
    obtain ⟨p, vs, e, h1, h2⟩ := r
    subst e
    have h' : (toDs xs).map PyData.list = some d := h
    cases q : toDs xs with
    | none => rw [q] at h'; cases h'
    | some ds =>
      rw [q] at h'; cases h'
      exact .lst (LsQ.mono f h1).sq (toDs_rep f xs vs ds h2 q)
  | .ref _, _, _, _, h => by cases h
theorem toDs_rep {H : Hp} (f : ∀ a o, g.fz a = some o → H a = some o) : ∀ (xs : List PV) (vs : List V) (ds : List PyData), RepVs K g xs vs → toDs xs = some ds → DpAll K H vs ds
  | [], _, _, r, h => by cases (show _ = [] from r); cases (show some _ = some _ from h); exact .nil
  | x :: xs, _, ds, r, h => by
    obtain ⟨v, vr, e, r1, r2⟩ := r
    subst e
    have h' : (match toD x, toDs xs with
      | some d, some ds => some (d :: ds)
      | _, _ => none) = some ds := h
    cases q1 : toD x with
    | none => rw [q1] at h'; cases h'
    | some d =>
      cases q2 : toDs xs with
      | none => rw [q1, q2] at h'; cases h'
      | some ds' =>
        rw [q1, q2] at h'; cases h'
        exact .cons (toD_rep f x v d r1 q1) (toDs_rep f xs vr ds' r2 q2)
end
theorem RepS.data (hS : RepS K mg g S H) {a : PV} {x : V} {d : PyData} (r : RepV K g a x) (h : dOf S a = some d) : Dp K H x d := by
  cases a with
  | ref n =>
    obtain ⟨p, e, h1⟩ := r
    obtain ⟨so, h2⟩ := hS.at_ h1
    unfold dOf at h
    simp only [h2] at h
    cases so with
    | lst ys =>
      obtain ⟨vs, q1, q2⟩ := hS.ob n _ p h2 h1
      have h' : (toDs ys).map PyData.list = some d := h
      cases q : toDs ys with
      | none => rw [q] at h'; cases h'
      | some ds =>
        rw [q] at h'; cases h'
        subst e
        exact .lst (SqL.of q1) (toDs_rep hS.fz ys vs ds q2 q)
    | _ => cases h
  | non => exact toD_rep hS.fz _ _ _ r h
  | bl b => exact toD_rep hS.fz _ _ _ r h
  | int i => exact toD_rep hS.fz _ _ _ r h
  | str z => exact toD_rep hS.fz _ _ _ r h
  | tup xs => exact toD_rep hS.fz _ _ _ r h
  | lst xs => exact toD_rep hS.fz _ _ _ r h
end

/-! ### operators -/
def vAdd : V2 := fun a b S => match a, b with
  | .int i, .int j => some (.int (i + j), S)
  | .str x, .str y => if x.length + y.length ≤ sizeLine then some (.str (x ++ y), S) else none
  | .tup xs, .tup ys => if xs.length + ys.length ≤ sizeLine then some (.tup (xs ++ ys), S) else none
  | a, b => match listOf S a, listOf S b with
    | some xs, some ys => if xs.length + ys.length ≤ sizeLine then some (.lst (xs ++ ys), S) else none
    | _, _ => none
def vSub : V2 := fun a b S => match a, b with
  | .int i, .int j => some (.int (i - j), S)
  | _, _ => none
instance (i j : Int) : Decidable (CMul i j) := by unfold CMul; infer_instance
instance (i j : Int) : Decidable (CDivN i j) := by unfold CDivN; infer_instance
instance (i j : Int) : Decidable (CPow i j) := by unfold CPow; infer_instance
def vMul : V2 := fun a b S => match a, b with
  | .int i, .int j => if CMul i j then some (.int (i * j), S) else none
  | .tup xs, .int k => if xs ≠ [] ∧ 2 ≤ k ∧ k ≤ 1000 ∧ xs.length ≤ 1000 then some (.tup (List.replicate k.toNat xs).flatten, S) else none
  | a, .int k => match listOf S a with
    | some xs => if -(2 ^ 63) ≤ k ∧ k < 2 ^ 63 ∧ xs.length * k.toNat ≤ sizeLine then some (.lst (List.replicate k.toNat xs).flatten, S) else none
    | none => none
  | _, _ => none
def vMod : V2 := fun a b S => match a, b with
  | .int i, .int j => if j ≠ 0 then some (.int (i.fmod j), S) else none
  | _, _ => none
def vFDiv : V2 := fun a b S => match a, b with
  | .int i, .int j => if CDivN i j then some (.int (i.fdiv j), S) else none
  | _, _ => none
def vPow : V2 := fun a b S => match a, b with
  | .int i, .int j => if CPow i j then some (.int (i ^ j.toNat), S) else none
  | _, _ => none
def vNeg : V1 := fun a S => match a with
  | .int i => some (.int (-i), S)
  | _ => none
section
variable {X : Cx}
theorem op_sub' : Op2 X (binaryOp .Sub) vSub := by
  intro pins s σ H x y v u Q I rx ry ⟨g, S, a, b, hS, r1, r2, p⟩
  cases a <;> cases b <;> try exact p.elim
  rename_i i j
  exact op_sub pins s σ H x y v u Q I rx ry ⟨i, j, r1, r2, p.now hS rfl⟩
theorem op_mod' : Op2 X (binaryOp .Mod) vMod := by
  intro pins s σ H x y v u Q I rx ry ⟨g, S, a, b, hS, r1, r2, p⟩
  cases a <;> cases b <;> try exact p.elim
  rename_i i j
  unfold vMod at p
  simp only at p
  split at p
  · rename_i hj
    exact op_modN pins s σ H x y v u Q I rx ry ⟨i, j, r1, r2, hj, p.now hS rfl⟩
  · exact p.elim
theorem op_fdiv' : Op2 X (binaryOp .FloorDiv) vFDiv := by
  intro pins s σ H x y v u Q I rx ry ⟨g, S, a, b, hS, r1, r2, p⟩
  cases a <;> cases b <;> try exact p.elim
  rename_i i j
  unfold vFDiv at p
  simp only at p
  split at p
  · rename_i hj
    exact op_fdivN pins s σ H x y v u Q I rx ry ⟨i, j, r1, r2, hj, p.now hS rfl⟩
  · exact p.elim
theorem op_pow' : Op2 X (binaryOp .Pow) vPow := by
  intro pins s σ H x y v u Q I rx ry ⟨g, S, a, b, hS, r1, r2, p⟩
  cases a <;> cases b <;> try exact p.elim
  rename_i i j
  unfold vPow at p
  simp only at p
  split at p
  · rename_i hj
    exact op_pow pins s σ H x y v u Q I rx ry ⟨i, j, r1, r2, hj, p.now hS rfl⟩
  · exact p.elim
theorem un_neg' : Un1 X (unaryOp .USub) vNeg := by
  intro pins s σ H x v Q I rx ⟨g, S, a, hS, r1, p⟩
  cases a <;> try exact p.elim
  rename_i i
  exact un_neg pins s σ H x v Q I rx ⟨i, r1, p.now hS rfl⟩
/-- xs + ys, lists that are read -/
theorem op_catL : OpR X (binaryOp .Add) (fun x y H Q => ∃ l b xs zs, x = .ref l ∧ y = .ref b ∧ LsQ X.K H l xs ∧ LsQ X.K H b zs ∧ xs.length + zs.length ≤ sizeLine ∧ ∀ p, H p = none → Q (.ref p) (upd H p (.lst (xs ++ zs)))) := by
  intro pins s σ H x y v u Q I rx ry h
  obtain ⟨l, b, xs, zs, rfl, rfl, hH, hB, hz, q⟩ := h
  cases rx
  cases ry
  obtain ⟨its, n, z, r, e⟩ := hH.obj I
  obtain ⟨its2, n2, z2, r2, e2⟩ := hB.obj I
  have hl := r.length
  have hl2 := r2.length
  refine PySem.P.add_list e e2 ?_ (by rw [List.size_toArray, List.size_toArray]; omega)
  have ea : its.toArray ++ its2.toArray = (its ++ its2).toArray := by simp
  rw [ea]
  exact ⟨.ref _, _, I.lnew (t' := s.toks) (r.append r2) (by rw [List.length_append]; omega), rfl, q _ I.fresh⟩
theorem catL_use {g : Gh} {S : Sto} {a b : PV} {xs ys : List PV} {x y : V} {Q : VK} {H : Hp} (hS : RepS X.K X.mg g S H) (r1 : RepV X.K g a x) (r2 : RepV X.K g b y) (e1 : listOf S a = some xs) (e2 : listOf S b = some ys)
    (p : PostO X g (RepV X.K) (if xs.length + ys.length ≤ sizeLine then some (.lst (xs ++ ys), S) else none) Q) :
    ∃ l b xs zs, x = .ref l ∧ y = .ref b ∧ LsQ X.K H l xs ∧ LsQ X.K H b zs ∧ xs.length + zs.length ≤ sizeLine ∧ ∀ p, H p = none → Q (.ref p) (upd H p (.lst (xs ++ zs))) := by
  split at p
  · rename_i hl
    obtain ⟨l, vs, q1, q2, q3⟩ := hS.list r1 e1
    obtain ⟨m, ws, q4, q5, q6⟩ := hS.list r2 e2
    exact ⟨l, m, vs, ws, q1, q4, q2, q5, by rw [← q3.length, ← q6.length]; exact hl, p.lst hS (q3.append q6)⟩
  · exact p.elim
theorem op_add' : Op2 X (binaryOp .Add) vAdd := by
  intro pins s σ H x y v u Q I rx ry ⟨g, S, a, b, hS, r1, r2, p⟩
  have lists : ∀ xs ys, listOf S a = some xs → listOf S b = some ys → PostO X g (RepV X.K) (if xs.length + ys.length ≤ sizeLine then some (PV.lst (xs ++ ys), S) else none) Q →
      wpAny (model X.prog X.w) X.A (binaryOp .Add v u) (EP X pins σ Q) X.xe s := fun xs ys e1 e2 p => op_catL pins s σ H x y v u Q I rx ry (catL_use hS r1 r2 e1 e2 p)
  unfold vAdd at p
  split at p
  · rename_i i j
    exact op_add pins s σ H x y v u Q I rx ry ⟨i, j, r1, r2, p.now hS rfl⟩
  · rename_i z w
    split at p
    · rename_i hl
      exact op_add_str pins s σ H x y v u Q I rx ry ⟨z, w, r1, r2, hl, p.now hS rfl⟩
    · exact p.elim
  · rename_i xs ys
    split at p
    · rename_i hl
      obtain ⟨l, vs, q1, q2, q3⟩ := r1
      obtain ⟨m, ws, q4, q5, q6⟩ := r2
      refine op_catA pins s σ H x y v u Q I rx ry ⟨l, m, vs, ws, q1, q4, SqT.mono hS.fz q2, SqT.mono hS.fz q5, by rw [← q3.length, ← q6.length]; exact hl, fun e => ?_, fun _ e => ?_, fun _ _ => p.tup hS (q3.append q6)⟩
      · subst e
        have hx : xs = [] := List.eq_nil_of_length_eq_zero q3.length
        subst hx
        exact p.now hS ⟨m, ws, rfl, q5, q6⟩
      · subst e
        have hy : ys = [] := List.eq_nil_of_length_eq_zero q6.length
        subst hy
        refine p.now hS ⟨l, vs, rfl, q2, ?_⟩
        simpa using q3
    · exact p.elim
  · split at p
    · rename_i xs ys e1 e2
      exact lists xs ys e1 e2 p
    · exact p.elim
theorem op_repL : OpR X (binaryOp .Mult) (fun x y H Q => ∃ l k xs, x = .ref l ∧ y = .int k ∧ LsQ X.K H l xs ∧ -(2 ^ 63) ≤ k ∧ k < 2 ^ 63 ∧ xs.length * k.toNat ≤ sizeLine ∧
  ∀ p, H p = none → Q (.ref p) (upd H p (.lst (List.replicate k.toNat xs).flatten))) := by
  intro pins s σ H x y v u Q I rx ry h
  obtain ⟨l, k, xs, rfl, rfl, hH, h1, h2, hz, q⟩ := h
  cases rx
  obtain ⟨t, rfl⟩ := ry
  obtain ⟨its, n, z, r, e⟩ := hH.obj I
  have hl := r.length
  have hlen : its.toArray.size * k.toNat ≤ sizeLine := by rw [List.size_toArray, ← hl]; exact hz
  have hcap : ¬ its.toArray.size * k.toNat > (2 ^ 63 - 1) / 8 := by
    have : (sizeLine : Nat) ≤ (2 ^ 63 - 1) / 8 := by decide
    omega
  have hfit : ¬ (!Builtin.List.listFitsIndex k) = true := by
    rw [fitsIndex_both h1 h2]
    exact Bool.false_ne_true
  have hlong : ¬ Builtin.List.listTooLong (its.toArray.size * k.toNat) = true := by
    rw [notLongL hlen]
    exact Bool.false_ne_true
  have hnew : List.foldl (fun x1 x2 => x1 ++ x2) #[] (List.replicate (if its.toArray.isEmpty = true then 0 else k.toNat) its.toArray) = (List.replicate k.toNat its).flatten.toArray := by
    have f0 : ∀ m : Nat, List.foldl (fun x1 x2 => x1 ++ x2) #[] (List.replicate m its.toArray) = (List.replicate m its).flatten.toArray := fun m => by
      have := foldl_rep its m []
      rw [List.nil_append] at this
      exact this
    rw [f0]
    cases its with
    | nil => simp
    | cons a r' => rw [if_neg (by simp)]
  refine wpAny_binaryOp_repeat_ref (T := "list") (U := "int") (by decide) ⟨_, e, rfl⟩ (fun s' => typeIs_int s' k t) noFill_list_mul F.fills_int_mul F.slot_int_rmul repeat_list F.slot_int_index.lookup
    (call_meets F.slot_int_rmul (typeIs_int s k t) F.entry_int_rmul (F.args_int_rmul_2 _ _) (int___rmul___int_list k t l its.toArray n)
      ⟨e, rfl, ⟨_, e, rfl⟩, call_meets F.slot_list_mul ⟨_, e, rfl⟩ F.entry_list_mul (F.args_list_mul_2 _ _) (AutoListH.list___mul___list_int_3 l its.toArray n k t hfit hcap hlong) ⟨e, ?_⟩⟩)
  rw [hnew]
  exact ⟨.ref _, _, I.lnew (t' := s.toks) (r.rep k.toNat) (by rw [PyProof.Rows.lm_len_rep_flat, Nat.mul_comm]; exact hz), rfl, q _ I.fresh⟩
theorem RepVs.rep {K : PySem.W.Frag} {g : Gh} {xs : List PV} {vs : List V} (h : RepVs K g xs vs) : ∀ n : Nat, RepVs K g (List.replicate n xs).flatten (List.replicate n vs).flatten
  | 0 => .nil
  | n + 1 => by rw [List.replicate_succ, List.replicate_succ, List.flatten_cons, List.flatten_cons]; exact h.append (RepVs.rep h n)
theorem op_mul' : Op2 X (binaryOp .Mult) vMul := by
  intro pins s σ H x y v u Q I rx ry ⟨g, S, a, b, hS, r1, r2, p⟩
  unfold vMul at p
  split at p
  · rename_i i j
    split at p
    · rename_i hc
      exact op_mul pins s σ H x y v u Q I rx ry ⟨i, j, r1, r2, hc, p.now hS rfl⟩
    · exact p.elim
  · rename_i xs k
    split at p
    · rename_i hc
      obtain ⟨h1, h2, h3, h4⟩ := hc
      obtain ⟨l, vs, q1, q2, q3⟩ := r1
      have hvs : vs ≠ [] := fun e => h1 (by subst e; exact List.eq_nil_of_length_eq_zero q3.length)
      exact op_repT pins s σ H x y v u Q I rx ry ⟨l, k, vs, q1, r2, SqT.mono hS.fz q2, hvs, h2, h3, by rw [← q3.length]; exact h4, p.tup hS (q3.rep _)⟩
    · exact p.elim
  · rename_i k _ _
    split at p
    · rename_i xs e1
      split at p
      · rename_i hc
        obtain ⟨h1, h2, h3⟩ := hc
        obtain ⟨l, vs, q1, q2, q3⟩ := hS.list r1 e1
        exact op_repL pins s σ H x y v u Q I rx ry ⟨l, k, vs, q1, r2, q2, h1, h2, by rw [← q3.length]; exact h3, p.lst hS (q3.rep _)⟩
      · exact p.elim
    · exact p.elim
  · exact p.elim
end

/-! ### == != in, not in, order, is None -/
def vEq : V2 := fun a b S => match dOf S a, dOf S b with
  | some d, some e => if SeqAt.shaped d = true ∧ SeqAt.shaped e = true then some (.bl (PyData.eqv d e), S) else none
  | _, _ => none
def vNe : V2 := fun a b S => match dOf S a, dOf S b with
  | some d, some e => if SeqAt.shaped d = true ∧ SeqAt.shaped e = true then some (.bl (!PyData.eqv d e), S) else none
  | _, _ => none
def vLt : V2 := fun a b S => match a, b with
  | .int i, .int j => some (.bl (decide (i < j)), S)
  | _, _ => none
def vLe : V2 := fun a b S => match a, b with
  | .int i, .int j => some (.bl (decide (i ≤ j)), S)
  | _, _ => none
def vGt : V2 := fun a b S => match a, b with
  | .int i, .int j => some (.bl (decide (j < i)), S)
  | _, _ => none
def vGe : V2 := fun a b S => match a, b with
  | .int i, .int j => some (.bl (decide (j ≤ i)), S)
  | _, _ => none
/-- b in a's way: the answer -/
def inAns (S : Sto) (a b : PV) : Option Bool := match a, b with
  | .str x, .str y => some (!(Builtin.Str.occurrences y x 0 y.length 1).isEmpty)
  | a, b => match dOf S a, dOf S b with
    | some d, some (.list ds) => if SeqAt.shaped d = true ∧ SeqAt.shaped (.list ds) = true then some (ds.any fun z => PyData.eqv z d) else none
    | some d, some (.tuple ds) => if SeqAt.shaped d = true ∧ SeqAt.shaped (.tuple ds) = true then some (ds.any fun z => PyData.eqv z d) else none
    | _, _ => none
def vIn : V2 := fun a b S => (inAns S a b).map fun k => (.bl k, S)
def vNotIn : V2 := fun a b S => (inAns S a b).map fun k => (.bl (!k), S)
def vIsN : V2 := fun a b S => match a, b with
  | .non, .non => some (.bl true, S)
  | _, .non => some (.bl false, S)
  | _, _ => none
def vIsNotN : V2 := fun a b S => match a, b with
  | .non, .non => some (.bl false, S)
  | _, .non => some (.bl true, S)
  | _, _ => none
section
variable {X : Cx}
theorem op_eq' (hu : X.A.units + 64 < cLine) : Op2 X (compareOp .Eq) vEq := by
  intro pins s σ H x y v u Q I rx ry ⟨g, S, a, b, hS, r1, r2, p⟩
  unfold vEq at p
  split at p
  · rename_i d e h1 h2
    split at p
    · rename_i hc
      exact op_eqD hu pins s σ H x y v u Q I rx ry ⟨d, e, hS.data r1 h1, hS.data r2 h2, hc.1, hc.2, p.now hS rfl⟩
    · exact p.elim
  · exact p.elim
theorem op_ne' (hu : X.A.units + 64 < cLine) : Op2 X (compareOp .NotEq) vNe := by
  intro pins s σ H x y v u Q I rx ry ⟨g, S, a, b, hS, r1, r2, p⟩
  unfold vNe at p
  split at p
  · rename_i d e h1 h2
    split at p
    · rename_i hc
      exact op_neD hu pins s σ H x y v u Q I rx ry ⟨d, e, hS.data r1 h1, hS.data r2 h2, hc.1, hc.2, p.now hS rfl⟩
    · exact p.elim
  · exact p.elim
theorem op_lt' : Op2 X (compareOp .Lt) vLt := by
  intro pins s σ H x y v u Q I rx ry ⟨g, S, a, b, hS, r1, r2, p⟩
  cases a <;> cases b <;> try exact p.elim
  rename_i i j
  exact op_lt pins s σ H x y v u Q I rx ry ⟨i, j, r1, r2, p.now hS rfl⟩
theorem op_le' : Op2 X (compareOp .LtE) vLe := by
  intro pins s σ H x y v u Q I rx ry ⟨g, S, a, b, hS, r1, r2, p⟩
  cases a <;> cases b <;> try exact p.elim
  rename_i i j
  exact op_le pins s σ H x y v u Q I rx ry ⟨i, j, r1, r2, p.now hS rfl⟩
theorem op_gt' : Op2 X (compareOp .Gt) vGt := by
  intro pins s σ H x y v u Q I rx ry ⟨g, S, a, b, hS, r1, r2, p⟩
  cases a <;> cases b <;> try exact p.elim
  rename_i i j
  exact op_gt pins s σ H x y v u Q I rx ry ⟨i, j, r1, r2, p.now hS rfl⟩
theorem op_ge' : Op2 X (compareOp .GtE) vGe := by
  intro pins s σ H x y v u Q I rx ry ⟨g, S, a, b, hS, r1, r2, p⟩
  cases a <;> cases b <;> try exact p.elim
  rename_i i j
  exact op_ge pins s σ H x y v u Q I rx ry ⟨i, j, r1, r2, p.now hS rfl⟩
theorem room_inT {A : Around} {d : PyData} {ds : List PyData} (h : SeqAt.shaped d = true) (hu : A.units + 65 < cLine) : A.units + 1 + min (PyData.depthAll ds) d.depth < cLine := by
  have h1 := SeqAt.depth_of_shaped h
  have h2 : min (PyData.depthAll ds) d.depth ≤ d.depth := Nat.min_le_right _ _
  omega
theorem op_in' (hu : X.A.units + 65 < cLine) : Op2 X (compareOp .In) vIn := by
  intro pins s σ H x y v u Q I rx ry ⟨g, S, a, b, hS, r1, r2, p⟩
  unfold vIn inAns at p
  split at p
  · rename_i z w
    exact op_in_str pins s σ H x y v u Q I rx ry ⟨z, w, r1, r2, p.now hS rfl⟩
  · split at p
    · rename_i d ds h1 h2
      split at p
      · rename_i hc
        exact op_inD hu pins s σ H x y v u Q I rx ry ⟨d, ds, hS.data r1 h1, hS.data r2 h2, hc.1, hc.2, p.now hS rfl⟩
      · exact p.elim
    · rename_i d ds h1 h2
      split at p
      · rename_i hc
        obtain ⟨as, q1⟩ := Dp.reads I d x v (hS.data r1 h1) rx
        obtain ⟨bs, q2⟩ := Dp.reads I (.tuple ds) y u (hS.data r2 h2) ry
        exact SeqAt.in_tuple_reads q2 q1 (SeqAt.canLay_of_shaped hc.2) (SeqAt.canLay_of_shaped hc.1) (room_inT hc.1 hu) ⟨.bl _, H, I, rfl, p.now hS rfl⟩
      · exact p.elim
    · exact p.elim
theorem op_notIn' (hu : X.A.units + 65 < cLine) : Op2 X (compareOp .NotIn) vNotIn := by
  intro pins s σ H x y v u Q I rx ry ⟨g, S, a, b, hS, r1, r2, p⟩
  unfold vNotIn inAns at p
  split at p
  · rename_i z w
    exact op_notin_str pins s σ H x y v u Q I rx ry ⟨z, w, r1, r2, p.now hS rfl⟩
  · split at p
    · rename_i d ds h1 h2
      split at p
      · rename_i hc
        exact op_notInD hu pins s σ H x y v u Q I rx ry ⟨d, ds, hS.data r1 h1, hS.data r2 h2, hc.1, hc.2, p.now hS rfl⟩
      · exact p.elim
    · rename_i d ds h1 h2
      split at p
      · rename_i hc
        obtain ⟨as, q1⟩ := Dp.reads I d x v (hS.data r1 h1) rx
        obtain ⟨bs, q2⟩ := Dp.reads I (.tuple ds) y u (hS.data r2 h2) ry
        exact SeqAt.notIn_tuple_reads q2 q1 (SeqAt.canLay_of_shaped hc.2) (SeqAt.canLay_of_shaped hc.1) (room_inT hc.1 hu) ⟨.bl _, H, I, rfl, p.now hS rfl⟩
      · exact p.elim
    · exact p.elim
/-- a value is None exactly if it stands for None -/
theorem repV_non {g : Gh} {a : PV} {x : V} (r : RepV X.K g a x) : decide (x = .non) = (match a with
  | .non => true
  | _ => false) := by
  cases a with
  | non => cases (show x = V.non from r); rfl
  | bl b => cases (show x = V.bl b from r); rfl
  | int i => cases (show x = V.int i from r); rfl
  | str z => cases (show x = V.str z from r); rfl
  | tup xs => obtain ⟨p, vs, e, _⟩ := r; subst e; rfl
  | lst xs => obtain ⟨p, vs, e, _⟩ := r; subst e; rfl
  | ref n => obtain ⟨p, e, _⟩ := r; subst e; rfl
theorem op_isN' : Op2 X (compareOp .Is) vIsN := by
  intro pins s σ H x y v u Q I rx ry ⟨g, S, a, b, hS, r1, r2, p⟩
  have e := repV_non r1
  refine op_isN pins s σ H x y v u Q I rx ry ?_
  unfold vIsN at p
  cases b <;> (cases a <;> first | exact p.elim | (refine ⟨r2, ?_⟩; rw [e]; exact p.now hS rfl))
theorem op_notN' : Op2 X (compareOp .IsNot) vIsNotN := by
  intro pins s σ H x y v u Q I rx ry ⟨g, S, a, b, hS, r1, r2, p⟩
  have e := repV_non r1
  refine op_notN pins s σ H x y v u Q I rx ry ?_
  unfold vIsNotN at p
  cases b <;> (cases a <;> first | exact p.elim | (refine ⟨r2, ?_⟩; rw [e]; exact p.now hS rfl))
end

/-! ### subscripts, slices -/
def vItem : V2 := fun a b S => match b with
  | .int i => match a with
    | .str z => if z.length ≤ sizeLine then (atI z.cps.toList i).map fun c => (.str ⟨#[c]⟩, S) else none
    | a => match seqOf S a with
      | some xs => (atI xs i).map fun x => (x, S)
      | none => none
  | _ => none
theorem RepVs.at_ {K : PySem.W.Frag} {g : Gh} {xs : List PV} {vs : List V} (h : RepVs K g xs vs) {i : Int} {x : PV} (e : atI xs i = some x) : ∃ v, atI vs i = some v ∧ RepV K g x v := by
  unfold atI at e ⊢
  rw [← h.length]
  cases q : ixN xs.length i with
  | none => rw [q] at e; cases e
  | some j =>
    rw [q] at e
    exact h.get e
section
variable {X : Cx}
theorem ix_item : Ix2 X vItem := by
  intro value slice pins s σ H x y v u Q I rx ry ⟨g, S, a, b, hS, r1, r2, p⟩ hs
  cases b with
  | int i =>
    have other : ∀ xs, seqOf S a = some xs → PostO X g (RepV X.K) ((atI xs i).map fun x => (x, S)) Q → wpAny (model X.prog X.w) X.A (subscriptTail value slice v u) (EP X pins σ Q) X.xe s := fun xs h1 p => by
      obtain ⟨q, vs, e1, hq, rr⟩ := hS.seq r1 h1
      cases h2 : atI xs i with
      | none => rw [h2] at p; exact p.elim
      | some z =>
        rw [h2] at p
        obtain ⟨w, h3, r3⟩ := rr.at_ h2
        rcases hq with hq | hq
        · exact ix_list value slice pins s σ H x y v u Q I rx ry ⟨q, vs, i, w, e1, r2, hq, h3, p.now hS r3⟩ hs
        · exact ix_tup value slice pins s σ H x y v u Q I rx ry ⟨q, vs, i, w, e1, r2, hq, h3, p.now hS r3⟩ hs
    unfold vItem at p
    simp only at p
    split at p
    · rename_i z
      split at p
      · rename_i hz
        cases h2 : atI z.cps.toList i with
        | none => rw [h2] at p; exact p.elim
        | some c =>
          rw [h2] at p
          exact ix_str value slice pins s σ H x y v u Q I rx ry ⟨z, i, c, r1, r2, hz, h2, p.now hS rfl⟩ hs
      · exact p.elim
    · split at p
      · rename_i xs h1
        exact other xs h1 p
      · exact p.elim
  | _ => exact p.elim
def cutP (xs : List PV) (lo hi : Option Int) : List PV := (xs.drop (HT.sIx xs.length 0 lo)).take (HT.sIx xs.length xs.length hi - HT.sIx xs.length 0 lo)
def vSl : VS := fun a lo hi S => match a with
  | .str z => if z.length ≤ sizeLine then some (.str (cutS z lo hi), S) else none
  | .tup xs => some (.tup (cutP xs lo hi), S)
  | a => match listOf S a with
    | some xs => some (.lst (cutP xs lo hi), S)
    | none => none
theorem cut_whole {xs : List PV} {lo hi : Option Int} (h : HT.sIx xs.length 0 lo = 0 ∧ HT.sIx xs.length xs.length hi = xs.length) : cutP xs lo hi = xs := by
  unfold cutP
  rw [h.1, h.2]
  simp

theorem sl_any : SlR X (rVS X vSl) := by
  intro pins s σ H x v vl vu lo hi sl Q I rx hs pl pu ⟨g, S, a, hS, r1, p⟩
  unfold vSl at p
  split at p
  · rename_i z
    split at p
    · rename_i hz
      exact sl_str pins s σ H x v vl vu lo hi sl Q I rx hs pl pu ⟨z, r1, hz, p.now hS rfl⟩
    · exact p.elim
  · rename_i xs
    obtain ⟨l, vs, q1, q2, q3⟩ := id r1
    refine sl_tupA pins s σ H x v vl vu lo hi sl Q I rx hs pl pu ⟨l, vs, q1, SqT.mono hS.fz q2, fun hw => ?_, fun _ => p.tup hS (q3.cut lo hi)⟩
    rw [← q3.length] at hw
    rw [cut_whole hw] at p
    exact p.now hS ⟨l, vs, rfl, q2, q3⟩
  · split at p
    · rename_i xs e1
      obtain ⟨l, vs, q1, q2, q3⟩ := hS.list r1 e1
      exact sl_list pins s σ H x v vl vu lo hi sl Q I rx hs pl pu ⟨l, vs, q1, q2.sq, p.lst hS (q3.cut lo hi)⟩
    · exact p.elim
end

/-! ### built-ins by values -/
def vLen : VN := fun as S => match as with
  | [.str z] => if z.length ≤ sizeLine then some (.int z.length, S) else none
  | [a] => (seqOf S a).map fun xs => (.int xs.length, S)
  | _ => none
def vTuple : VN := fun as S => match as with
  | [.tup xs] => some (.tup xs, S)
  | [a] => (listOf S a).map fun xs => (.tup xs, S)
  | _ => none
def vList : VN := fun as S => match as with
  | [a] => (seqOf S a).map fun xs => (.lst xs, S)
  | _ => none
def vListNew : VN := fun as S => match as with
  | [a] => (seqOf S a).map fun xs => (.ref S.length, S ++ [.lst xs])
  | _ => none
def intsOf : List PV → Option (List Int)
  | [] => some []
  | .int i :: xs => (intsOf xs).map (i :: ·)
  | _ => none
def blsOf : List PV → Option (List Bool)
  | [] => some []
  | .bl b :: xs => (blsOf xs).map (b :: ·)
  | _ => none
def strsOf : List PV → Option (List Str)
  | [] => some []
  | .str b :: xs => (strsOf xs).map (b :: ·)
  | _ => none
def vSum : VN := fun as S => match as with
  | [a] => (listOf S a).bind fun xs => (intsOf xs).map fun ns => (.int ns.sum, S)
  | _ => none
def vAll : VN := fun as S => match as with
  | [a] => (listOf S a).bind fun xs => (blsOf xs).map fun bs => (.bl (bs.all id), S)
  | _ => none
def vAny : VN := fun as S => match as with
  | [a] => (listOf S a).bind fun xs => (blsOf xs).map fun bs => (.bl (bs.any id), S)
  | _ => none
def vMax2 : VN := fun as S => match as with
  | [.int i, .int j] => some (.int (if j > i then j else i), S)
  | _ => none
def vMin2 : VN := fun as S => match as with
  | [.int i, .int j] => some (.int (if j < i then j else i), S)
  | _ => none
def vInt : VN := fun as S => match as with
  | [.int i] => some (.int i, S)
  | [.bl k] => some (.int (if k then 1 else 0), S)
  | _ => none
section
variable {K : PySem.W.Frag} {g : Gh}
theorem ints_rep : ∀ {xs : List PV} {vs : List V} {ns : List Int}, RepVs K g xs vs → intsOf xs = some ns → vs = ns.map V.int
  | [], _, _, r, h => by cases (show _ = [] from r); cases (show some _ = some _ from h); rfl
  | x :: xs, _, ns, r, h => by
    obtain ⟨v, vr, e, r1, r2⟩ := r
    subst e
    cases x with
    | int i =>
      have h' : (intsOf xs).map (i :: ·) = some ns := h
      cases q : intsOf xs with
      | none => rw [q] at h'; cases h'
      | some ms =>
        rw [q] at h'; cases h'
        rw [ints_rep r2 q, (show v = V.int i from r1)]; rfl
    | _ => cases h
theorem bls_rep : ∀ {xs : List PV} {vs : List V} {ns : List Bool}, RepVs K g xs vs → blsOf xs = some ns → vs = ns.map V.bl
  | [], _, _, r, h => by cases (show _ = [] from r); cases (show some _ = some _ from h); rfl
  | x :: xs, _, ns, r, h => by
    obtain ⟨v, vr, e, r1, r2⟩ := r
    subst e
    cases x with
    | bl i =>
      have h' : (blsOf xs).map (i :: ·) = some ns := h
      cases q : blsOf xs with
      | none => rw [q] at h'; cases h'
      | some ms =>
        rw [q] at h'; cases h'
        rw [bls_rep r2 q, (show v = V.bl i from r1)]; rfl
    | _ => cases h
theorem strs_rep : ∀ {xs : List PV} {vs : List V} {ns : List Str}, RepVs K g xs vs → strsOf xs = some ns → vs = ns.map V.str
  | [], _, _, r, h => by cases (show _ = [] from r); cases (show some _ = some _ from h); rfl
  | x :: xs, _, ns, r, h => by
    obtain ⟨v, vr, e, r1, r2⟩ := r
    subst e
    cases x with
    | str i =>
      have h' : (strsOf xs).map (i :: ·) = some ns := h
      cases q : strsOf xs with
      | none => rw [q] at h'; cases h'
      | some ms =>
        rw [q] at h'; cases h'
        rw [strs_rep r2 q, (show v = V.str i from r1)]; rfl
    | _ => cases h
end
section
variable {X : Cx}
theorem RepVs.one {K : PySem.W.Frag} {g : Gh} {a : PV} {vs : List V} (r : RepVs K g [a] vs) : ∃ x, vs = [x] ∧ RepV K g a x := by
  obtain ⟨x, r', e, r1, r2⟩ := r
  cases (show r' = [] from r2)
  exact ⟨x, e, r1⟩
theorem RepVs.two {K : PySem.W.Frag} {g : Gh} {a b : PV} {vs : List V} (r : RepVs K g [a, b] vs) : ∃ x y, vs = [x, y] ∧ RepV K g a x ∧ RepV K g b y := by
  obtain ⟨x, r', e, r1, r2⟩ := r
  obtain ⟨y, e2, r3⟩ := RepVs.one r2
  subst e2
  exact ⟨x, y, e, r1, r3⟩
theorem cl_len : CallN X (.builtin "len") vLen := by
  intro pins s σ H xs us Q I r ⟨g, S, as, hS, rr, p⟩
  unfold vLen at p
  split at p
  · rename_i z
    obtain ⟨x, rfl, r1⟩ := rr.one
    split at p
    · rename_i hz
      exact call_len_str pins s σ H _ us Q I r ⟨z, by rw [(show x = V.str z from r1)], hz, p.now hS rfl⟩
    · exact p.elim
  · rename_i a _
    obtain ⟨x, rfl, r1⟩ := rr.one
    cases h : seqOf S a with
    | none => rw [h] at p; exact p.elim
    | some ys =>
      rw [h] at p
      obtain ⟨l, vs, q1, q2, q3⟩ := hS.seq r1 h
      subst q1
      exact call_len_seq pins s σ H _ us Q I r ⟨l, vs, rfl, q2, by rw [← q3.length]; exact p.now hS rfl⟩
  · exact p.elim
theorem cl_tuple : CallN X (.type "tuple") vTuple := by
  intro pins s σ H xs us Q I r ⟨g, S, as, hS, rr, p⟩
  unfold vTuple at p
  split at p
  · rename_i ys
    obtain ⟨x, rfl, r1⟩ := rr.one
    obtain ⟨l, vs, q1, q2, q3⟩ := id r1
    subst q1
    exact call_tuple_of pins s σ H _ us Q I r ⟨l, vs, rfl, .inr ⟨SqT.mono hS.fz q2, p.now hS r1⟩⟩
  · rename_i a _
    obtain ⟨x, rfl, r1⟩ := rr.one
    cases h : listOf S a with
    | none => rw [h] at p; exact p.elim
    | some ys =>
      rw [h] at p
      obtain ⟨l, vs, q1, q2, q3⟩ := hS.list r1 h
      subst q1
      exact call_tuple_of pins s σ H _ us Q I r ⟨l, vs, rfl, .inl ⟨q2.sq, p.tup hS q3⟩⟩
  · exact p.elim
theorem cl_list : CallN X (.type "list") vList := by
  intro pins s σ H xs us Q I r ⟨g, S, as, hS, rr, p⟩
  unfold vList at p
  split at p
  · rename_i a
    obtain ⟨x, rfl, r1⟩ := rr.one
    cases h : seqOf S a with
    | none => rw [h] at p; exact p.elim
    | some ys =>
      rw [h] at p
      obtain ⟨l, vs, q1, q2, q3⟩ := hS.seq r1 h
      subst q1
      exact call_list_of pins s σ H _ us Q I r ⟨l, vs, rfl, q2, p.lst hS q3⟩
  · exact p.elim
theorem cl_listNew : CallN X (.type "list") vListNew := by
  intro pins s σ H xs us Q I r ⟨g, S, as, hS, rr, p⟩
  unfold vListNew at p
  split at p
  · rename_i a
    obtain ⟨x, rfl, r1⟩ := rr.one
    cases h : seqOf S a with
    | none => rw [h] at p; exact p.elim
    | some ys =>
      rw [h] at p
      obtain ⟨l, vs, q1, q2, q3⟩ := hS.seq r1 h
      subst q1
      exact call_list_of pins s σ H _ us Q I r ⟨l, vs, rfl, q2, p.new hS q3⟩
  · exact p.elim
theorem cl_sum (hc : X.calm = true) : CallN X (.builtin "sum") vSum := by
  intro pins s σ H xs us Q I r ⟨g, S, as, hS, rr, p⟩
  unfold vSum at p
  split at p
  · rename_i a
    obtain ⟨x, rfl, r1⟩ := rr.one
    cases h : listOf S a with
    | none => rw [h] at p; exact p.elim
    | some ys =>
      cases h2 : intsOf ys with
      | none => rw [h] at p; simp only [Option.bind, h2] at p; exact p.elim
      | some ns =>
        rw [h] at p
        simp only [Option.bind, h2] at p
        obtain ⟨l, vs, q1, q2, q3⟩ := hS.list r1 h
        subst q1
        have e := ints_rep q3 h2
        subst e
        exact cr_sum hc pins s σ H _ us Q I r ⟨l, ns, rfl, q2.sq, p.now hS rfl⟩
  · exact p.elim
theorem cl_all (hc : X.calm = true) : CallN X (.builtin "all") vAll := by
  intro pins s σ H xs us Q I r ⟨g, S, as, hS, rr, p⟩
  unfold vAll at p
  split at p
  · rename_i a
    obtain ⟨x, rfl, r1⟩ := rr.one
    cases h : listOf S a with
    | none => rw [h] at p; exact p.elim
    | some ys =>
      cases h2 : blsOf ys with
      | none => rw [h] at p; simp only [Option.bind, h2] at p; exact p.elim
      | some ns =>
        rw [h] at p
        simp only [Option.bind, h2] at p
        obtain ⟨l, vs, q1, q2, q3⟩ := hS.list r1 h
        subst q1
        have e := bls_rep q3 h2
        subst e
        exact cr_all hc pins s σ H _ us Q I r ⟨l, ns, rfl, q2.sq, p.now hS rfl⟩
  · exact p.elim
theorem cl_any (hc : X.calm = true) : CallN X (.builtin "any") vAny := by
  intro pins s σ H xs us Q I r ⟨g, S, as, hS, rr, p⟩
  unfold vAny at p
  split at p
  · rename_i a
    obtain ⟨x, rfl, r1⟩ := rr.one
    cases h : listOf S a with
    | none => rw [h] at p; exact p.elim
    | some ys =>
      cases h2 : blsOf ys with
      | none => rw [h] at p; simp only [Option.bind, h2] at p; exact p.elim
      | some ns =>
        rw [h] at p
        simp only [Option.bind, h2] at p
        obtain ⟨l, vs, q1, q2, q3⟩ := hS.list r1 h
        subst q1
        have e := bls_rep q3 h2
        subst e
        exact cr_any hc pins s σ H _ us Q I r ⟨l, ns, rfl, q2.sq, p.now hS rfl⟩
  · exact p.elim
theorem cl_max2 (hc : X.calm = true) : CallN X (.builtin "max") vMax2 := by
  intro pins s σ H xs us Q I r ⟨g, S, as, hS, rr, p⟩
  unfold vMax2 at p
  split at p
  · rename_i i j
    obtain ⟨x, y, rfl, r1, r2⟩ := rr.two
    exact call_max2 hc pins s σ H _ us Q I r ⟨i, j, by rw [(show x = V.int i from r1), (show y = V.int j from r2)], p.now hS rfl⟩
  · exact p.elim
theorem cl_min2 (hc : X.calm = true) : CallN X (.builtin "min") vMin2 := by
  intro pins s σ H xs us Q I r ⟨g, S, as, hS, rr, p⟩
  unfold vMin2 at p
  split at p
  · rename_i i j
    obtain ⟨x, y, rfl, r1, r2⟩ := rr.two
    exact call_min2 hc pins s σ H _ us Q I r ⟨i, j, by rw [(show x = V.int i from r1), (show y = V.int j from r2)], p.now hS rfl⟩
  · exact p.elim
theorem cl_int : CallN X (.type "int") vInt := by
  intro pins s σ H xs us Q I r ⟨g, S, as, hS, rr, p⟩
  unfold vInt at p
  split at p
  · rename_i i
    obtain ⟨x, rfl, r1⟩ := rr.one
    exact call_int1 pins s σ H _ us Q I r (.inl ⟨i, by rw [(show x = V.int i from r1)], p.now hS rfl⟩)
  · rename_i i
    obtain ⟨x, rfl, r1⟩ := rr.one
    exact call_int1 pins s σ H _ us Q I r (.inr ⟨i, by rw [(show x = V.bl i from r1)], p.now hS rfl⟩)
  · exact p.elim

/-! ### isinstance of a built-in type -/
def tyName (S : Sto) : PV → Option String
  | .non => some "NoneType"
  | .bl _ => some "bool"
  | .int _ => some "int"
  | .str _ => some "str"
  | .tup _ => some "tuple"
  | .lst _ => some "list"
  | .ref n => match S[n]? with
    | some (.lst _) => some "list"
    | some (.dct _) => some "dict"
    | _ => none
theorem tyName_rep {K : PySem.W.Frag} {mg : Str → Option Value} {g : Gh} {S : Sto} {H : Hp} {a : PV} {x : V} {t : String} (hS : RepS K mg g S H) (r : RepV K g a x) (h : tyName S a = some t) : TyX K H x (.type t) := by
  cases a with
  | non => cases h; cases (show x = V.non from r); exact .base .non
  | bl b => cases h; cases (show x = V.bl b from r); exact .base (.bl b)
  | int i => cases h; cases (show x = V.int i from r); exact .base (.int i)
  | str z => cases h; cases (show x = V.str z from r); exact .base (.str z)
  | tup xs =>
    cases h
    obtain ⟨p, vs, rfl, h1, _⟩ := r
    rcases SqT.mono hS.fz h1 with (q | ⟨o, q⟩) | ⟨o, its, n, q, c, _⟩
    · exact .base (.tup q)
    · exact .fTuple q
    · exact .kTuple q c
  | lst xs =>
    cases h
    obtain ⟨p, vs, rfl, h1, _⟩ := r
    rcases LsQ.mono hS.fz h1 with (q | ⟨o, q⟩) | ⟨its, n, q, _⟩
    · exact .base (.lst q)
    · exact .base (.frz q)
    · exact .kList q rfl
  | ref n =>
    obtain ⟨p, rfl, h1⟩ := r
    obtain ⟨so, h2⟩ := hS.at_ h1
    unfold tyName at h
    simp only [h2] at h
    have q := hS.ob n so p h2 h1
    cases so with
    | lst ys => cases h; obtain ⟨vs, q1, _⟩ := q; exact .base (.lst q1)
    | dct ys => cases h; obtain ⟨vs, q1, _⟩ := q; exact .base (.dK q1)
    | _ => cases h
def vIsInst (T : String) : V1 := fun a S => (tyName S a).bind fun t => (L2.kitB t T).map fun b => (.bl b, S)
theorem se_isinst {e : Expr} {te : Sx} {T : String} {x : Str} {p p2 pos : Pos} (he : PE X e (rdE X te)) (hg : Gl X "isinstance") (hm : X.mg "isinstance" = none) (hgT : Gl X x) (hmT : X.mg x = none) (hvT : bootBuiltins x = some (.type T)) (hnT : x ≠ "__name__" := by decide) (hdT : (x == ("__debug__" : Str)) = false := by decide)
    (hs : starEach [e, .Name x p2] X.env = (false, eval e X.env) :: starEach [.Name x p2] X.env := by rfl) :
    PE X (.Call (.Name "isinstance" p) [e, .Name x p2] [] pos) (rdE X (sx1 (vIsInst T) te)) := by
  refine (pe_callB (call_isi (X := X)) hg hm (by decide +kernel) (pa_cons he (pa_cons (pe_bltn (v := .ty T) hgT hmT hvT rfl hnT hdT) pa_nil) hs) (he := hs)).imp fun σ H Q h => ?_
  refine (rd1 h).mono fun y H1 ⟨g, S, a, hS, r, p⟩ => ?_
  unfold vIsInst at p
  cases h1 : tyName S a with
  | none => rw [h1] at p; exact p.elim
  | some t =>
    cases h2 : L2.kitB t T with
    | none => rw [h1] at p; simp only [Option.bind, h2] at p; exact p.elim
    | some b =>
      rw [h1] at p
      simp only [Option.bind, h2] at p
      exact ⟨y, .ty T, .type t, .type T, b, rfl, .ty T, tyName_rep hS r h1, kit_ty h2, p.now hS rfl⟩
end
end MX

end

section
/-! Loops, comprehensions, stores to items, methods, dicts. -/
namespace MX
open PySem PySem.Spec PyProof.Rows L2

/-! ### what is walked -/
/-- items that stand, or a list of the store as it stands at each turn (in pairs with its places) -/
inductive Src where
  | items (xs : List PV) | live (n : Nat) | liveE (n : Nat)
def enumP : Nat → List PV → List PV
  | _, [] => []
  | i, x :: xs => .tup [.int i, x] :: enumP (i + 1) xs
theorem enumP_get : ∀ (i : Nat) (xs : List PV) (k : Nat), (enumP i xs)[k]? = (xs[k]?).map fun x => PV.tup [.int ((i + k : Nat) : Int), x]
  | _, [], _ => by simp [enumP]
  | i, x :: xs, 0 => by simp [enumP]
  | i, x :: xs, k + 1 => by
    simp only [enumP, List.getElem?_cons_succ]
    rw [enumP_get (i + 1) xs k]
    have : i + 1 + k = i + (k + 1) := by omega
    rw [this]
theorem enumP_length : ∀ (i : Nat) (xs : List PV), (enumP i xs).length = xs.length
  | _, [] => rfl
  | i, x :: xs => by simp [enumP, enumP_length (i + 1) xs]
def srcGet : Src → Sto → Option (List PV)
  | .items xs, _ => some xs
  | .live n, S => listOf S (.ref n)
  | .liveE n, S => (listOf S (.ref n)).map (enumP 0)
abbrev Si := Sl → Sto → Out Src
/-- J walks the source -/
def JOk (X : Cx) (g : Gh) (src : Src) (J : It) : Prop := ∀ (i : Nat) (H : Hp) (g' : Gh) (S : Sto) (xs : List PV), g.lv g' → RepS X.K X.mg g' S H → srcGet src S = some xs →
  (xs.length ≤ i → J.stop i H) ∧ ∀ x, xs[i]? = some x → J.go i H ∧ ∀ v H', J.yld i H v H' → ∃ g2, g'.le g2 ∧ RepS X.K X.mg g2 S H' ∧ RepV X.K g2 x v
def rdI (X : Cx) (t : Si) : TI := fun σ H R => ∃ g sp S, RepS X.K X.mg g S H ∧ RepE X.K g sp σ ∧ Post X g (JOk X) (ExcT X g sp) (t sp S) R
theorem _root_.L2.PI.imp {X : Cx} {tg e : Expr} {t t' : TI} (h : PI X tg e t) (i : ∀ σ H R, t' σ H R → t σ H R) : PI X tg e t' := ⟨fun pins s σ H R I q => h.run pins s σ H R I (i _ _ _ q)⟩
theorem _root_.L2.PI.or {X : Cx} {tg e : Expr} {t t' : TI} (h : PI X tg e t) (h' : PI X tg e t') : PI X tg e (fun σ H R => t σ H R ∨ t' σ H R) := ⟨fun pins s σ H R I q => by
  rcases q with q | q
  · exact h.run pins s σ H R I q
  · exact h'.run pins s σ H R I q⟩
section
variable {X : Cx} {tg e : Expr} {te : Sx} {pos : Pos}
theorem JOk.lst {g : Gh} {a : Addr} {src : Src} (h : ∀ (g' : Gh) (S : Sto) (H : Hp) (xs : List PV), g.lv g' → RepS X.K X.mg g' S H → srcGet src S = some xs → ∃ vs, SqL X.K H a vs ∧ RepVs X.K g' xs vs) : JOk X g src (Itl X.K a) := fun i H g' S xs l hS e => by
  obtain ⟨vs, q1, q2⟩ := h g' S H xs l hS e
  refine ⟨fun hi => ⟨vs, q1, by rw [← q2.length]; exact hi⟩, fun x hx => ?_⟩
  obtain ⟨v, e1, r⟩ := q2.get hx
  refine ⟨⟨vs, v, q1, e1⟩, fun u H' ⟨e2, k⟩ => ?_⟩
  subst e2
  have := k vs q1
  rw [e1] at this; cases this
  exact ⟨g', .refl _, hS, r⟩
theorem JOk.tup {g : Gh} {a : Addr} {xs : List PV} {vs : List V} (h : SqT X.K g.fz a vs) (r : RepVs X.K g xs vs) : JOk X g (.items xs) (Itt X.K a) := fun i H g' S ys l hS e => by
  cases e
  have q1 : SqT X.K H a vs := SqT.mono (fun b o z => hS.fz b o (l.fz b o z)) h
  refine ⟨fun hi => ⟨vs, q1, by rw [← r.length]; exact hi⟩, fun x hx => ?_⟩
  obtain ⟨v, e1, r1⟩ := r.get hx
  refine ⟨⟨vs, v, q1, e1⟩, fun u H' ⟨e2, k⟩ => ?_⟩
  subst e2
  have := k vs q1
  rw [e1] at this; cases this
  exact ⟨g', .refl _, hS, RepV.monoV l _ _ r1⟩
def charsOf (z : Str) : List PV := z.cps.toList.map fun c => .str ⟨#[c]⟩
theorem JOk.str {g : Gh} {z : Str} : JOk X g (.items (charsOf z)) (Its z) := fun i H g' S ys l hS e => by
  cases e
  refine ⟨fun hi => (by have z2 := hi; simp [charsOf] at z2; exact z2), fun x hx => ?_⟩
  unfold charsOf at hx
  rw [List.getElem?_map] at hx
  cases q : z.cps.toList[i]? with
  | none => rw [q] at hx; cases hx
  | some c =>
    rw [q] at hx; cases hx
    have hi : i < z.cps.size := by simpa using (List.getElem?_eq_some_iff.mp q).1
    refine ⟨hi, fun u H' ⟨e2, c', e3, e4⟩ => ?_⟩
    subst e2 e4
    have : z.cps[i]? = some c := by simpa using q
    rw [this] at e3; cases e3
    exact ⟨g', .refl _, hS, rfl⟩
theorem JOk.rng {g : Gh} {lo : Int} {n : Nat} : JOk X g (.items ((List.range n).map fun i => .int (lo + (i : Nat)))) (Itr lo n) := fun i H g' S ys l hS e => by
  cases e
  refine ⟨fun hi => (by have z2 := hi; simp at z2; exact z2), fun x hx => ?_⟩
  rw [List.getElem?_map] at hx
  have hi : i < n := by
    have := (List.getElem?_eq_some_iff.mp (Option.map_eq_some_iff.mp hx).choose_spec.1).1
    simpa using this
  rw [List.getElem?_range hi] at hx
  cases hx
  exact ⟨hi, fun u H' ⟨e2, e3⟩ => by subst e2 e3; exact ⟨g', .refl _, hS, rfl⟩⟩
/-- a list, a tuple, a text -/
def srcOf (v : PV) (S1 : Sto) : Out Src := match v with
  | .tup xs => .ok (.items xs) S1
  | .lst xs => .ok (.items xs) S1
  | .str z => .ok (.items (charsOf z)) S1
  | .ref n => match listOf S1 (.ref n) with
    | some _ => .ok (.live n) S1
    | none => .stuck
  | _ => .stuck
def siSeq (te : Sx) : Si := fun sp S => (te sp S).bind srcOf
theorem si_seq (he : PE X e (rdE X te)) : PI X tg e (rdI X (siSeq te)) := by
  refine (((pi_list he).or (pi_tup he)).or (pi_str he)).imp fun σ H R ⟨g, sp, S, hS, hE, p⟩ => ?_
  have key := rdE.fst (ta := te) hS hE p
  cases h : te sp S with
  | exc x S1 =>
    refine .inl (.inl ⟨g, sp, S, hS, hE, ?_⟩)
    unfold siSeq at p
    rw [h] at p ⊢
    exact p
  | stuck =>
    unfold siSeq at p
    rw [h] at p
    exact p.elim
  | ok v S1 =>
    have go : ∀ (Q : VK), (∀ x H1, (∃ g1, g.le g1 ∧ RepS X.K X.mg g1 S1 H1 ∧ RepE X.K g1 sp σ ∧ RepV X.K g1 v x ∧ Post X g1 (JOk X) (ExcT X g1 sp) (srcOf v S1) R) → Q x H1) → rdE X te σ H Q := fun Q hQ => by
      refine ⟨g, sp, S, hS, hE, ?_⟩
      rw [h]
      intro x H1 g1 l1 q1 r1
      refine hQ x H1 ⟨g1, l1, q1, hE.mono l1, r1, ?_⟩
      unfold siSeq at p
      rw [h] at p
      exact (Post.imp (show Post X g (JOk X) (ExcT X g sp) (srcOf v S1) R from p) (fun x S' t => t.mono l1) fun _ _ q => q).le l1
    cases v with
    | tup xs =>
      refine .inl (.inr (go _ fun x H1 ⟨g1, l1, q1, e1, ⟨a, vs, ex, k1, k2⟩, p1⟩ => ⟨a, ex, ⟨vs, SqT.mono q1.fz k1⟩, p1 _ H1 g1 (.refl _) q1 (JOk.tup k1 k2)⟩))
    | lst xs =>
      refine .inl (.inl (go _ fun x H1 ⟨g1, l1, q1, e1, ⟨a, vs, ex, k1, k2⟩, p1⟩ => ⟨a, ex, ⟨vs, (LsQ.mono q1.fz k1).sq⟩, p1 _ H1 g1 (.refl _) q1 (JOk.lst fun g' S' H' ys l hS' e' => ?_)⟩))
      cases e'
      exact ⟨vs, (LsQ.mono (fun b o z => hS'.fz b o (l.fz b o z)) k1).sq, RepVs.monoV l _ _ k2⟩
    | str z =>
      exact .inr (go _ fun x H1 ⟨g1, l1, q1, e1, r1, p1⟩ => ⟨z, r1, p1 _ H1 g1 (.refl _) q1 JOk.str⟩)
    | ref n =>
      refine .inl (.inl (go _ fun x H1 ⟨g1, l1, q1, e1, r1, p1⟩ => ?_))
      obtain ⟨a, ex, em⟩ := id r1
      unfold srcOf at p1
      cases h2 : listOf S1 (.ref n) with
      | none => simp only [h2] at p1; exact p1.elim
      | some xs =>
        simp only [h2] at p1
        obtain ⟨a', vs, ex', k1, k2⟩ := q1.list r1 h2
        rw [ex] at ex'; cases ex'
        refine ⟨a, ex, ⟨vs, k1.sq⟩, p1 _ H1 g1 (.refl _) q1 (JOk.lst fun g' S' H' ys l hS' e' => ?_)⟩
        obtain ⟨a2, ws, ex2, k3, k4⟩ := hS'.list (RepV.monoV l _ _ r1) e'
        rw [ex] at ex2; cases ex2
        exact ⟨ws, k3.sq, k4⟩
    | _ =>
      unfold siSeq at p
      rw [h] at p
      exact p.elim
/-- range -/
def rngP (lo : Int) (n : Nat) : List PV := (List.range n).map fun i => .int (lo + (i : Nat))
/-- a bound that the kernel need not count out -/
def RngOk (j : Int) : Prop := Nat.ble j.natAbs 1000000000000 = true
instance (j : Int) : Decidable (RngOk j) := by unfold RngOk; infer_instance
theorem RngOk.h {j : Int} (q : RngOk j) : -(2 ^ 62) ≤ j ∧ j < 2 ^ 62 := by
  have h : j.natAbs ≤ 1000000000000 := Nat.le_of_ble_eq_true q
  omega
def siRange1 (ta : Sx) : Si := fun sp S => (ta sp S).bind fun v S1 => match v with
  | .int j => if RngOk j then .ok (.items (rngP 0 j.toNat)) S1 else .stuck
  | _ => .stuck
def siRange2 (ta tb : Sx) : Si := fun sp S => (ta sp S).bind fun v S1 => (tb sp S1).bind fun w S2 => match v, w with
  | .int i, .int j => if RngOk i ∧ RngOk j then .ok (.items (rngP i (j - i).toNat)) S2 else .stuck
  | _, _ => .stuck
variable {a b : Expr} {ta tb : Sx} {p : Pos}
theorem si_range1 (hg : Gl X "range") (hm : X.mg "range" = none) (ha : PE X a (rdE X ta)) (hs : starEach [a] X.env = [(false, eval a X.env)] := by rfl) : PI X tg (.Call (.Name "range" p) [a] [] pos) (rdI X (siRange1 ta)) :=
  (pi_range1 hg hm (pa_cons ha pa_nil (by rw [hs]; rfl)) hs).imp fun σ H R ⟨g, sp, S, hS, hE, p⟩ => by
    refine (rdE.fst hS hE p).mono fun x H1 ⟨v, g1, S1, l1, q1, e1, r1, p1⟩ => ?_
    cases v with
    | int j =>
      simp only at p1
      split at p1
      · rename_i hj
        refine ⟨j, by rw [(show x = V.int j from r1)], hj.h.1, hj.h.2, p1 _ H1 g1 (.refl _) q1 ?_⟩
        exact JOk.rng
      · exact p1.elim
    | _ => exact p1.elim
theorem si_range2 (hg : Gl X "range") (hm : X.mg "range" = none) (ha : PE X a (rdE X ta)) (hb : PE X b (rdE X tb)) (hs : starEach [a, b] X.env = [(false, eval a X.env), (false, eval b X.env)] := by rfl) (hs2 : starEach [b] X.env = [(false, eval b X.env)] := by rfl) :
    PI X tg (.Call (.Name "range" p) [a, b] [] pos) (rdI X (siRange2 ta tb)) :=
  (pi_range2 hg hm (pa_cons ha (pa_cons hb pa_nil (by rw [hs2]; rfl)) (by rw [hs, hs2])) hs hs2).imp fun σ H R ⟨g, sp, S, hS, hE, p⟩ => by
    refine (rdE.fst hS hE p).mono fun x H1 ⟨v, g1, S1, l1, q1, e1, r1, p1⟩ => ?_
    refine (rdE.fst q1 e1 p1).mono fun y H2 ⟨w, g2, S2, l2, q2, e2, r2, p2⟩ => ?_
    cases v with
    | int i =>
      cases w with
      | int j =>
        simp only at p2
        split at p2
        · rename_i hj
          refine ⟨i, j, by rw [(show x = V.int i from r1), (show y = V.int j from r2)], ⟨hj.1.h.1, hj.1.h.2, hj.2.h.1, hj.2.h.2⟩, p2 _ H2 g2 (.refl _) q2 ?_⟩
          exact JOk.rng
        · exact p2.elim
      | _ => exact p2.elim
    | _ => exact p2.elim
end

/-! ### for -/
def forG (get : Sto → Option (List PV)) (t : Sg) (b : Ss) : Nat → Nat → Sl → Sto → SOut
  | 0, i, sp, S => match get S with
    | none => .stuck
    | some xs => match xs[i]? with
      | none => .nx sp S
      | some _ => .stuck
  | f + 1, i, sp, S => match get S with
    | none => .stuck
    | some xs => match xs[i]? with
      | none => .nx sp S
      | some x => match t x sp S with
        | none => .stuck
        | some sp1 => match b sp1 S with
          | .nx sp2 S2 => forG get t b f (i + 1) sp2 S2
          | .ct sp2 S2 => forG get t b f (i + 1) sp2 S2
          | .bk sp2 S2 => .nx sp2 S2
          | .rt v S2 => .rt v S2
          | .exc x sp2 S2 => .exc x sp2 S2
          | .stuck => .stuck
/-- over items that stand -/
def forL (t : Sg) (b : Ss) : List PV → Sl → Sto → SOut
  | [], sp, S => .nx sp S
  | x :: xs, sp, S => match t x sp S with
    | none => .stuck
    | some sp1 => match b sp1 S with
      | .nx sp2 S2 => forL t b xs sp2 S2
      | .ct sp2 S2 => forL t b xs sp2 S2
      | .bk sp2 S2 => .nx sp2 S2
      | .rt v S2 => .rt v S2
      | .exc x sp2 S2 => .exc x sp2 S2
      | .stuck => .stuck
theorem forG_items (t : Sg) (b : Ss) : ∀ (ys pre : List PV) (sp : Sl) (S : Sto), forG (srcGet (.items (pre ++ ys))) t b ys.length pre.length sp S = forL t b ys sp S
  | [], pre, sp, S => by simp [forG, srcGet, forL]
  | y :: ys, pre, sp, S => by
    have h : (pre ++ y :: ys)[pre.length]? = some y := by simp
    have ih := fun sp2 S2 => forG_items t b ys (pre ++ [y]) sp2 S2
    have e : pre ++ [y] ++ ys = pre ++ y :: ys := by simp
    rw [e] at ih
    simp only [List.length_append, List.length_singleton] at ih
    show forG _ t b (ys.length + 1) pre.length sp S = _
    simp only [forG, srcGet, h, forL]
    cases t y sp S with
    | none => rfl
    | some sp1 =>
      simp only
      cases b sp1 S with
      | nx sp2 S2 => exact ih sp2 S2
      | ct sp2 S2 => exact ih sp2 S2
      | _ => rfl
def ssFor (ti : Si) (t : Sg) (b : Ss) : Ss := fun sp S => bindS (ti sp S) sp fun src S1 => match src with
  | .items xs => forL t b xs sp S1
  | src => match srcGet src S1 with
    | none => .stuck
    | some xs => forG (srcGet src) t b xs.length 0 sp S1
theorem ssFor_eq (ti : Si) (t : Sg) (b : Ss) (sp : Sl) (S : Sto) : ssFor ti t b sp S = bindS (ti sp S) sp fun src S1 => match srcGet src S1 with
    | none => .stuck
    | some xs => forG (srcGet src) t b xs.length 0 sp S1 := by
  unfold ssFor bindS
  cases ti sp S with
  | ok src S1 =>
    cases src with
    | items xs => exact (forG_items t b xs [] sp S1).symm
    | _ => rfl
  | _ => rfl
section
variable {X : Cx} {tg iter : Expr} {body : List Stmt} {ti : Si} {t : Sg} {b : Ss} {is : List Nat} {pos : Pos}
theorem ss_for (hp : PassesOwn (model X.prog X.w) X.A X.env X.xe) (hc : X.calm = true) (hi : PI X tg iter (rdI X ti)) (hg : PG X tg (rdG X is t)) (hb : PSs X body (rdS X b)) (hs : ∀ x, foldedSetIterable iter X.env x = pure x := by intro _; rfl) :
    PS X (.For tg iter body [] pos) (rdS X (ssFor ti t b)) := by
  refine (ps_for hp hc hi hg hb hs).imp fun D σ H ⟨g, sp, S, hS, hE, p⟩ => ?_
  rw [ssFor_eq] at p
  refine ⟨g, sp, S, hS, hE, (PostS.seq (R := JOk X) p).imp (fun _ _ x => x) fun J H1 ⟨src, g1, S1, l1, q1, jo, p1⟩ => ?_⟩
  refine ⟨fun i m σ H => ∃ g2 sp2 S2 f, g1.le g2 ∧ RepS X.K X.mg g2 S2 H ∧ RepE X.K g2 sp2 σ ∧ m = f ∧ PostS X g2 (forG (srcGet src) t b f i sp2 S2) D, ?_, ?_⟩
  · cases h : srcGet src S1 with
    | none => rw [h] at p1; exact p1.elim
    | some xs => rw [h] at p1; exact ⟨xs.length, g1, sp, S1, xs.length, .refl _, q1, hE.mono l1, rfl, p1⟩
  · rintro i m σ2 H2 ⟨g2, sp2, S2, f, l2, q2, e2, rfl, p2⟩
    cases h : srcGet src S2 with
    | none =>
      cases m <;> (simp only [forG, h] at p2; exact p2.elim)
    | some xs =>
      obtain ⟨jst, jgo⟩ := jo i H2 g2 S2 xs l2.lv q2 h
      cases hx : xs[i]? with
      | none =>
        refine .inl ⟨jst (List.getElem?_eq_none_iff.mp hx), ?_⟩
        cases m <;> (simp only [forG, h, hx] at p2; exact p2 σ2 H2 g2 (.refl _) q2 e2)
      | some x =>
        cases m with
        | zero => simp only [forG, h, hx] at p2; exact p2.elim
        | succ m =>
          simp only [forG, h, hx] at p2
          obtain ⟨go, yl⟩ := jgo x hx
          refine .inr ⟨go, fun σ' H' => ∃ g3 sp3 S3, g1.le g3 ∧ RepS X.K X.mg g3 S3 H' ∧ RepE X.K g3 sp3 σ' ∧ PostS X g3 (forG (srcGet src) t b m (i + 1) sp3 S3) D, fun σ' H' ⟨g3, sp3, S3, l3, q3, e3, p3⟩ => ⟨m, Nat.lt_succ_self _, g3, sp3, S3, m, l3, q3, e3, rfl, p3⟩, fun v H' y => ?_⟩
          obtain ⟨g3, l3, q3, r3⟩ := yl v H' y
          cases ht : t x sp2 S2 with
          | none => simp only [ht] at p2; exact p2.elim
          | some sp1 =>
            simp only [ht] at p2
            refine ⟨g3, sp2, S2, x, sp1, q3, e2.mono l3, r3, ht, fun σ4 g4 l4 q4 e4 _ => ⟨g4, sp1, S2, q4, e4, ?_⟩⟩
            have l24 := l3.trans l4
            cases hbo : b sp1 S2 with
            | nx sp5 S5 =>
              simp only [hbo] at p2
              exact fun σ5 H5 g5 l5 q5 e5 => ⟨g5, sp5, S5, (l2.trans l24).trans l5, q5, e5, p2.le (l24.trans l5)⟩
            | ct sp5 S5 =>
              simp only [hbo] at p2
              exact fun σ5 H5 g5 l5 q5 e5 => ⟨g5, sp5, S5, (l2.trans l24).trans l5, q5, e5, p2.le (l24.trans l5)⟩
            | bk sp5 S5 =>
              simp only [hbo] at p2
              exact fun σ5 H5 g5 l5 q5 e5 => p2 σ5 H5 g5 (l24.trans l5) q5 e5
            | rt w S5 =>
              simp only [hbo] at p2
              exact fun v5 H5 g5 l5 q5 r5 => p2 v5 H5 g5 (l24.trans l5) q5 r5
            | exc z sp5 S5 =>
              simp only [hbo] at p2
              exact ExcT.mono p2 l24
            | stuck => simp only [hbo] at p2; exact (show False from p2).elim
end

/-! ### while -/
def whileN (c : St') (b : Ss) : Nat → Sl → Sto → SOut
  | 0, _, _ => .stuck
  | f + 1, sp, S => bindS (c sp S) sp fun k S1 => if k = true then (match b sp S1 with
      | .nx sp2 S2 => whileN c b f sp2 S2
      | .ct sp2 S2 => whileN c b f sp2 S2
      | .bk sp2 S2 => .nx sp2 S2
      | .rt v S2 => .rt v S2
      | .exc x sp2 S2 => .exc x sp2 S2
      | .stuck => .stuck) else .nx sp S1
def ssWhile (f : Nat) (c : St') (b : Ss) : Ss := fun sp S => whileN c b f sp S
section
variable {X : Cx} {c : Expr} {body : List Stmt} {tc : St'} {b : Ss} {pos : Pos}
theorem ss_while (f : Nat) (hp : PassesOwn (model X.prog X.w) X.A X.env X.xe) (hc : PT X c (rdT X tc)) (hb : PSs X body (rdS X b)) : PS X (.While c body [] pos) (rdS X (ssWhile f tc b)) := by
  refine (ps_while hp hc hb).imp fun D σ H ⟨g, sp, S, hS, hE, p⟩ => ?_
  refine ⟨fun m σ H => ∃ g2 sp2 S2, RepS X.K X.mg g2 S2 H ∧ RepE X.K g2 sp2 σ ∧ PostS X g2 (whileN tc b m sp2 S2) D, ⟨f, g, sp, S, hS, hE, p⟩, ?_⟩
  rintro m σ2 H2 ⟨g2, sp2, S2, q2, e2, p2⟩
  cases m with
  | zero => exact p2.elim
  | succ m =>
    unfold whileN at p2
    refine (rdT.sq q2 e2 p2).mono fun k H1 ⟨g1, S1, l1, q1, e1, p1⟩ => ?_
    cases k with
    | false => exact iteF (p1 _ H1 g1 (.refl _) q1 e1)
    | true =>
      refine iteT ⟨fun σ' H' => ∃ g3 sp3 S3, RepS X.K X.mg g3 S3 H' ∧ RepE X.K g3 sp3 σ' ∧ PostS X g3 (whileN tc b m sp3 S3) D, fun σ' H' h => ⟨m, Nat.lt_succ_self _, h⟩, g1, sp2, S1, q1, e1, ?_⟩
      have p1 := (show PostS X g1 _ D from p1)
      simp only [if_true] at p1
      cases hbo : b sp2 S1 with
      | nx sp5 S5 =>
        simp only [hbo] at p1
        exact fun σ5 H5 g5 l5 q5 e5 => ⟨g5, sp5, S5, q5, e5, p1.le l5⟩
      | ct sp5 S5 =>
        simp only [hbo] at p1
        exact fun σ5 H5 g5 l5 q5 e5 => ⟨g5, sp5, S5, q5, e5, p1.le l5⟩
      | bk sp5 S5 => simp only [hbo] at p1; exact p1
      | rt w S5 => simp only [hbo] at p1; exact p1
      | exc z sp5 S5 => simp only [hbo] at p1; exact p1
      | stuck => simp only [hbo] at p1; exact (show False from p1).elim
end

/-! ### comprehensions -/
/-- a reading that lets no exception out, the same in every block -/
def rdE0 (X : Cx) (t : Sx) : TE := fun σ H Q => ∃ g sp S, RepS X.K X.mg g S H ∧ RepE X.K g sp σ ∧ Post X g (RepV X.K) (fun _ _ => False) (t sp S) Q
def rdT0 (X : Cx) (t : St') : TT := fun σ H Q => ∃ g sp S, RepS X.K X.mg g S H ∧ RepE X.K g sp σ ∧ Post X g (fun _ a b => a = b) (fun _ _ => False) (t sp S) Q
def rdI0 (X : Cx) (t : Si) : TI := fun σ H R => ∃ g sp S, RepS X.K X.mg g S H ∧ RepE X.K g sp σ ∧ Post X g (JOk X) (fun _ _ => False) (t sp S) R
theorem pe_0 {X : Cx} {e : Expr} {t : Sx} (h : PE X e (rdE X t)) : PE X e (rdE0 X t) := h.imp fun σ H Q ⟨g, sp, S, hS, hE, p⟩ => ⟨g, sp, S, hS, hE, p.imp (fun _ _ z => z.elim) fun _ _ q => q⟩
theorem pt_0 {X : Cx} {e : Expr} {t : St'} (h : PT X e (rdT X t)) : PT X e (rdT0 X t) := h.imp fun σ H Q ⟨g, sp, S, hS, hE, p⟩ => ⟨g, sp, S, hS, hE, p.imp (fun _ _ z => z.elim) fun _ _ q => q⟩
theorem pi_0 {X : Cx} {tg e : Expr} {t : Si} (h : PI X tg e (rdI X t)) : PI X tg e (rdI0 X t) := h.imp fun σ H Q ⟨g, sp, S, hS, hE, p⟩ => ⟨g, sp, S, hS, hE, p.imp (fun _ _ z => z.elim) fun _ _ q => q⟩
@[reducible] def Out.pure {α β : Type} (o : Out α) (f : α → Sto → Out β) : Out β := match o with
  | .ok a S => f a S
  | _ => .stuck
def stYes : St' := fun _ S => .ok true S
def wipeP (sp : Sl) : List Nat → Sl
  | [] => sp
  | v :: vs => (wipeP sp vs).set v none
def lcG (get : Sto → Option (List PV)) (sp : Sl) (t : Sg) (c : St') (te : Sx) : Nat → Nat → Sto → Out (List PV)
  | 0, i, S => match get S with
    | none => .stuck
    | some xs => match xs[i]? with
      | none => .ok [] S
      | some _ => .stuck
  | f + 1, i, S => match get S with
    | none => .stuck
    | some xs => match xs[i]? with
      | none => .ok [] S
      | some x => match t x sp S with
        | none => .stuck
        | some sp1 => (c sp1 S).pure fun k S1 => if k = true then (te sp1 S1).pure fun y S2 => (lcG get sp t c te f (i + 1) S2).pure fun ys S3 => .ok (y :: ys) S3
          else lcG get sp t c te f (i + 1) S1
def lcL (sp : Sl) (t : Sg) (c : St') (te : Sx) : List PV → Sto → Out (List PV)
  | [], S => .ok [] S
  | x :: xs, S => match t x sp S with
    | none => .stuck
    | some sp1 => (c sp1 S).pure fun k S1 => if k = true then (te sp1 S1).pure fun y S2 => (lcL sp t c te xs S2).pure fun ys S3 => .ok (y :: ys) S3
      else lcL sp t c te xs S1
theorem lcG_items (sp : Sl) (t : Sg) (c : St') (te : Sx) : ∀ (ys pre : List PV) (S : Sto), lcG (srcGet (.items (pre ++ ys))) sp t c te ys.length pre.length S = lcL sp t c te ys S
  | [], pre, S => by simp [lcG, srcGet, lcL]
  | y :: ys, pre, S => by
    have h : (pre ++ y :: ys)[pre.length]? = some y := by simp
    have ih := fun S2 => lcG_items sp t c te ys (pre ++ [y]) S2
    have e : pre ++ [y] ++ ys = pre ++ y :: ys := by simp
    rw [e] at ih
    simp only [List.length_append, List.length_singleton] at ih
    show lcG _ sp t c te (ys.length + 1) pre.length S = _
    simp only [lcG, srcGet, h, lcL]
    cases t y sp S with
    | none => rfl
    | some sp1 =>
      simp only
      cases c sp1 S with
      | ok k S1 =>
        simp only [Out.pure]
        cases k with
        | true =>
          simp only [if_true]
          cases te sp1 S1 with
          | ok v S2 => simp only; rw [ih]
          | _ => rfl
        | false =>
          simp only [Bool.false_eq_true, if_false]
          exact ih S1
      | _ => rfl
def lcRun (src : Src) (sp : Sl) (t : Sg) (c : St') (te : Sx) (S : Sto) : Out (List PV) := match src with
  | .items xs => lcL sp t c te xs S
  | src => match srcGet src S with
    | none => .stuck
    | some xs => lcG (srcGet src) sp t c te xs.length 0 S
theorem lcRun_eq (src : Src) (sp : Sl) (t : Sg) (c : St') (te : Sx) (S : Sto) : lcRun src sp t c te S = match srcGet src S with
    | none => .stuck
    | some xs => lcG (srcGet src) sp t c te xs.length 0 S := by
  cases src with
  | items xs => exact (lcG_items sp t c te xs [] S).symm
  | _ => rfl
/-- the list made, then frozen, or laid in the store -/
def fzL : VN := fun ys S => if ys.length ≤ sizeLine then some (.lst ys, S) else none
def nwL : VN := fun ys S => if ys.length ≤ sizeLine then some (.ref S.length, S ++ [.lst ys]) else none
def sxLc (fin : VN) (ti : Si) (vs : List Nat) (t : Sg) (c : St') (te : Sx) : Sx := fun sp S => (ti sp S).bind fun src S1 => (lcRun src (wipeP sp vs) t c te S1).pure fun ys S2 => .of (fin ys S2)
section
variable {K : PySem.W.Frag} {g : Gh}
theorem wipeP_length (sp : Sl) : ∀ vs : List Nat, (wipeP sp vs).length = sp.length
  | [] => rfl
  | v :: vs => by unfold wipeP; rw [List.length_set, wipeP_length sp vs]
theorem wipeP_some {sp : Sl} {i : Nat} {x : PV} : ∀ {vs : List Nat}, (wipeP sp vs)[i]? = some (some x) → sp[i]? = some (some x) ∧ i ∉ vs
  | [], h => ⟨h, by simp⟩
  | v :: vs, h => by
    unfold wipeP at h
    by_cases hi : v = i
    · subst hi
      by_cases hv : v < (wipeP sp vs).length
      · rw [List.getElem?_set_self hv] at h; cases h
      · rw [List.getElem?_eq_none (by simpa using hv)] at h; cases h
    · rw [List.getElem?_set_ne hi] at h
      obtain ⟨h1, h2⟩ := wipeP_some h
      exact ⟨h1, by simp only [List.mem_cons, not_or]; exact ⟨fun e => hi e.symm, h2⟩⟩
theorem RepE.wipe {sp : Sl} {σ : L2.St} (h : RepE K g sp σ) (vs : List Nat) : RepE K g (wipeP sp vs) (wipe σ vs) := by
  refine ⟨by rw [wipeP_length, wipe_length, h.len], fun i x e => ?_⟩
  obtain ⟨e1, hv⟩ := wipeP_some e
  obtain ⟨v, e2, r⟩ := h.get i x e1
  exact ⟨v, by rw [wipe_out hv]; exact e2, r⟩
theorem wipe_in {σ : L2.St} {i : Nat} (hi : i < σ.length) : ∀ {vs : List Nat}, i ∈ vs → (wipe σ vs)[i]? = some none
  | v :: vs, h => by
    unfold wipe
    by_cases e : v = i
    · subst e
      rw [List.getElem?_set_self (by rw [wipe_length]; exact hi)]
    · rw [List.getElem?_set_ne e]
      exact wipe_in hi (by simpa [Ne.symm e] using h)
theorem wipe_near {is vs : List Nat} {σ σ2 : L2.St} (n : Near is (wipe σ vs) σ2) (hv : ∀ i ∈ is, i ∈ vs) : wipe σ2 vs = wipe σ vs := by
  apply List.ext_getElem?
  intro i
  by_cases hl : i < σ.length
  · by_cases hi : i ∈ vs
    · rw [wipe_in hl hi, wipe_in (by rw [n.1, wipe_length]; exact hl) hi]
    · rw [wipe_out hi]
      exact n.2 i fun z => hi (hv i z)
  · rw [List.getElem?_eq_none (by rw [wipe_length, n.1, wipe_length]; omega), List.getElem?_eq_none (by rw [wipe_length]; omega)]
end
/-- what the end of a comprehension makes of the list -/
structure FinL (X : Cx) (fin : VN) : Prop where
  fit : ∀ ys S r, fin ys S = some r → ys.length ≤ sizeLine
  go : ∀ (g : Gh) (r0 : Hp) (S : Sto) (H : Hp) (ys : List PV) (vs : List V) (D : Addr) (Q : VK), RepS X.K X.mg g S H → g.rs D = some (.lst vs) → (∀ a u, r0 a = some u → a ≠ D ∧ g.rs a = some u) → RepVs X.K g ys vs →
    PostO X ⟨g.fz, g.m, r0, g.tb⟩ (RepV X.K) (fin ys S) Q → Q (.ref D) H
theorem fin_fz {X : Cx} : FinL X fzL := ⟨fun ys S r h => (by unfold fzL at h; split at h; assumption; cases h), fun g r0 S H ys vs D Q hS hD h0 r p => by
  unfold fzL at p
  split at p
  · obtain ⟨q1, q2⟩ := hS.letGo hD h0
    exact p (.ref D) H ⟨upd g.fz D (.lst vs), g.m, r0, g.tb⟩ ⟨q2.fz, q2.m, rfl, rfl⟩ q1 ⟨D, vs, rfl, .inl (.inl upd_same), RepVs.monoV q2 _ _ r⟩
  · exact p.elim⟩
theorem fin_nw {X : Cx} : FinL X nwL := ⟨fun ys S r h => (by unfold nwL at h; split at h; assumption; cases h), fun g r0 S H ys vs D Q hS hD h0 r p => by
  unfold nwL at p
  split at p
  · obtain ⟨q1, q2⟩ := hS.letIn hD h0 (so := .lst ys) ⟨vs, (hS.rs D _ hD).1, r⟩
    exact p (.ref D) H ⟨g.fz, g.m ++ [D], r0, g.tb⟩ ⟨q2.fz, q2.m, rfl, rfl⟩ q1 ⟨D, rfl, by show (g.m ++ [D])[S.length]? = some D; rw [← hS.len]; simp⟩
  · exact p.elim⟩
section
variable {X : Cx} {elt tg iter : Expr} {ifs : List Expr} {scope : Scope} {own : List (Str × Nat)} {pos : Pos} {ti : Si} {t : Sg} {is : List Nat} {tc : St'} {te : Sx} {fin : VN}
theorem Out.pure_ok {α β : Type} {o : Out α} {f : α → Sto → Out β} {r : Out β} (h : o.pure f = r) (hr : r ≠ .stuck) : ∃ a S, o = .ok a S ∧ f a S = r := by
  cases o with
  | ok a S => exact ⟨a, S, rfl, h⟩
  | exc x S => exact absurd h.symm hr
  | stuck => exact absurd h.symm hr
/-- the reading of a comprehension -/
theorem rdLc (hf : FinL X fin) (hv : ∀ i ∈ is, i ∈ own.map (·.2)) {σ : L2.St} {H : Hp} {Q : VK} (h : rdE X (sxLc fin ti (own.map (·.2)) t tc te) σ H Q) : tLc (rdI X ti) (rdG X is t) (rdT0 X tc) (rdE0 X te) (own.map (·.2)) σ H Q := by
  obtain ⟨g, sp, S, hS, hE, p⟩ := h
  refine ⟨g, sp, S, hS, hE, (Post.seq (R := JOk X) p).imp (fun _ _ x => x) fun J H1 ⟨src, g1, S1, l1, q1, jo, p1⟩ => ?_⟩
  intro D hD
  rw [lcRun_eq] at p1
  obtain ⟨vs, hvs⟩ : ∃ vs : List Nat, vs = own.map (·.2) := ⟨_, rfl⟩
  rw [← hvs] at p1 hv ⊢
  have hE1 := (hE.mono l1).wipe vs
  -- the state in the loop: acc is made, ys are to come
  refine ⟨fun i m H => ∃ g2 S2 acc ws f, g1.lv g2 ∧ (∃ r, g2.rs = upd r D (.lst ws) ∧ r = g1.rs) ∧ g2.tb = g1.tb ∧ RepS X.K X.mg g2 S2 H ∧ RepVs X.K g2 acc ws ∧ m = f ∧ ∃ ys S3, lcG (srcGet src) (wipeP sp vs) t tc te f i S2 = .ok ys S3 ∧ PostO X g1 (RepV X.K) (fin (acc ++ ys) S3) Q ∧ (acc ++ ys).length ≤ sizeLine, ?_, ?_⟩
  · cases h : srcGet src S1 with
    | none => rw [h] at p1; exact p1.elim
    | some xs =>
      rw [h] at p1
      simp only at p1
      cases hl : lcG (srcGet src) (wipeP sp vs) t tc te xs.length 0 S1 with
      | exc x S' => rw [hl] at p1; exact p1.elim
      | stuck => rw [hl] at p1; exact p1.elim
      | ok ys S3 =>
        rw [hl] at p1
        have p2 : PostO X g1 (RepV X.K) (fin ys S3) Q := Post.of p1
        refine ⟨xs.length, { g1 with rs := upd g1.rs D (.lst []) }, S1, [], [], xs.length, ⟨fun _ _ e => e, fun _ _ e => e⟩, ⟨_, rfl, rfl⟩, rfl, q1.reserve hD, .nil, rfl, ys, S3, hl, p2, ?_⟩
        cases hfin : fin ys S3 with
        | none => rw [hfin] at p2; exact p2.elim
        | some r => exact hf.fit _ _ _ hfin
  · rintro i m H2 ⟨g2, S2, acc, ws, f, l2, ⟨r, hr, hr1⟩, htb, q2, racc, rfl, ys, S3, hl, p2, hz⟩
    subst hr1
    have gD : g2.rs D = some (.lst ws) := by rw [hr, upd_same]
    have D0 : g1.rs D = none := by
      cases e : g1.rs D with
      | none => rfl
      | some u => rw [(q1.rs D u e).1] at hD; cases hD
    have h0 : ∀ a u, g1.rs a = some u → a ≠ D ∧ g2.rs a = some u := fun a u e => by
      have ha : a ≠ D := fun z => by rw [z, D0] at e; cases e
      exact ⟨ha, by rw [hr, upd_ne ha]; exact e⟩
    cases h : srcGet src S2 with
    | none =>
      cases m <;> (simp only [lcG, h] at hl; cases hl)
    | some xs =>
      obtain ⟨jst, jgo⟩ := jo i H2 g2 S2 xs l2 q2 h
      cases hx : xs[i]? with
      | none =>
        refine .inl ⟨jst (List.getElem?_eq_none_iff.mp hx), ?_⟩
        have e : ys = [] ∧ S3 = S2 := by
          cases m <;> (simp only [lcG, h, hx] at hl; cases hl; exact ⟨rfl, rfl⟩)
        obtain ⟨e1, e2⟩ := e
        subst e1 e2
        rw [List.append_nil] at p2
        refine hf.go g2 g1.rs S3 H2 acc ws D Q q2 gD h0 racc ?_
        have lle : g1.le ⟨g2.fz, g2.m, g1.rs, g2.tb⟩ := ⟨l2.fz, l2.m, rfl, htb⟩
        cases hfin : fin acc S3 with
        | none => rw [hfin] at p2; exact p2.elim
        | some rr =>
          obtain ⟨a, S4⟩ := rr
          rw [hfin] at p2
          exact fun b H5 g5 l5 q5 r5 => p2 b H5 g5 (lle.trans l5) q5 r5
      | some x =>
        cases m with
        | zero => simp only [lcG, h, hx] at hl; cases hl
        | succ m =>
          simp only [lcG, h, hx] at hl
          obtain ⟨go, yl⟩ := jgo x hx
          refine .inr ⟨go, _, fun H' n => ⟨m, Nat.lt_succ_self _, n⟩, fun v H' y => ?_⟩
          obtain ⟨g3, l3, q3, r3⟩ := yl v H' y
          cases ht : t x (wipeP sp vs) S2 with
          | none => simp only [ht] at hl; cases hl
          | some sp1 =>
            simp only [ht] at hl
            have E3 : RepE X.K g3 (wipeP sp vs) (wipe σ vs) := (hE1.monoV l2).mono l3
            refine ⟨g3, wipeP sp vs, S2, x, sp1, q3, E3, r3, ht, fun σ4 g4 l4 q4 e4 near => ⟨wipe_near near hv, g4, sp1, S2, q4, e4, ?_⟩⟩
            obtain ⟨k, S5, hk, hl2⟩ := Out.pure_ok hl (by intro z; cases z)
            rw [hk]
            intro b H5 g5 l5 q5 eb
            subst eb
            have l25 : g2.le g5 := (l3.trans l4).trans l5
            have lv5 : g1.lv g5 := l2.trans l25.lv
            have rs5 : g5.rs = g2.rs := l25.rs
            have tb5 : g5.tb = g1.tb := l25.tb.trans htb
            cases k with
            | false =>
              simp only [Bool.false_eq_true, if_false] at hl2 ⊢
              exact ⟨g5, S5, acc, ws, m, lv5, ⟨_, rs5.trans hr, rfl⟩, tb5, q5, RepVs.mono l25 _ _ racc, rfl, ys, S3, hl2, p2, hz⟩
            | true =>
              simp only [if_true] at hl2 ⊢
              obtain ⟨y', S6, hy, hl3⟩ := Out.pure_ok hl2 (by intro z; cases z)
              obtain ⟨zs, S7, hz7, hl4⟩ := Out.pure_ok hl3 (by intro z; cases z)
              cases hl4
              refine ⟨g5, sp1, S5, q5, e4.mono l5, ?_⟩
              rw [hy]
              intro w H6 g6 l6 q6 r6
              have l26 : g2.le g6 := l25.trans l6
              have rs6 : g6.rs = upd g1.rs D (.lst ws) := l26.rs.trans hr
              have gD6 : g6.rs D = some (.lst ws) := by rw [rs6, upd_same]
              have hlen := racc.length
              refine ⟨ws, (q6.rs D _ gD6).1, by rw [← hlen]; simp only [List.length_append, List.length_cons] at hz; omega, ?_⟩
              have q7 := q6.rekeep (o' := .lst (ws ++ [w])) gD6 rfl
              have lv7 : g6.lv { g6 with rs := upd g6.rs D (.lst (ws ++ [w])) } := ⟨fun _ _ e => e, fun _ _ e => e⟩
              refine ⟨{ g6 with rs := upd g6.rs D (.lst (ws ++ [w])) }, S6, acc ++ [y'], ws ++ [w], m, (l2.trans l26.lv).trans lv7, ⟨g1.rs, by show upd g6.rs D _ = _; rw [rs6, upd_upd], rfl⟩, l26.tb.trans htb, q7, ?_, rfl, zs, S3, hz7, by rw [List.append_assoc]; exact p2, by rw [List.append_assoc]; exact hz⟩
              exact RepVs.monoV lv7 _ _ ((RepVs.mono l26 _ _ racc).append (.cons r6 .nil))
end
end MX

end

section
/-! enumerate of a tuple; zip. -/
namespace MXE
open PySem
open PySem.Sem (wp)
open AutoSeq1 (wpAny_loadPart')
theorem meets_enumerate_newT (l : Addr) (items : Array Value) (n : Nat) (dct : Option Addr) (sl : Array (Option Value)) :
    Meets (Builtin.«enumerate.__new__» ⟨[.type "enumerate", .ref l], []⟩) (fun _ R s => s.heap.get? l = some { cls := .type "tuple", dict := dct, data := .seq items n, slots := sl } ∧
      R (.ok (.ret (.ref (s.heap.push { cls := .type "tuple_iterator", data := .fields #[.ref l, .int 0 0] }).objs.size)))
        { s with heap := (s.heap.push { cls := .type "tuple_iterator", data := .fields #[.ref l, .int 0 0] }).push { cls := .type "enumerate", data := .fields #[.none, .bool false, .ref s.heap.objs.size, rawInt 0, .none, .none] } }) :=
  .of_wp fun prog w A R s h => by
    obtain ⟨hp, g, d, tk, os⟩ := s; obtain ⟨hl, h⟩ := h
    have hsub := sub_enumerate
    have hL : Heap.IsTuple (Shared.heap ⟨hp, g, d, tk, os⟩) l items := ⟨_, hl, rfl, n, rfl⟩
    wp_walk using wpAny_loadPart' hl
    refine wpAny_stack_any fun st => wpAny_pure ?_
    split
    · rename_i c _ _ _ _ _
      cases (c == Value.type "enumerate")
      · wp_walk using wpAny_loadPart' hl, wpAny_pyIter_tuple hL
        exact ⟨_, rfl, h⟩
      · wp_walk using wpAny_loadPart' hl, wpAny_pyIter_tuple hL
        exact ⟨_, rfl, h⟩
    · wp_walk using wpAny_loadPart' hl, wpAny_pyIter_tuple hL
      exact ⟨_, rfl, h⟩
section
variable {prog : Program} {w : World} {A : Around} {E : Value → Shared → Prop} {s : Shared}
theorem call_enumerate_tuple {l : Addr} {items : Array Value} {Q : Value → Shared → Prop} (hL : s.heap.IsTuple l items)
    (h : ∀ h', IsEnum h' (s.heap.objs.size + 1) s.heap.objs.size 0 .none → h'.IsTupleIter s.heap.objs.size l 0 → h'.objs.size = s.heap.objs.size + 2 →
      (∀ b o, s.heap.get? b = some o → h'.get? b = some o) → Q (.ref (s.heap.objs.size + 1)) { s with heap := h' }) :
    wpAny (model prog w) A (call (.type "enumerate") [.ref l]) Q E s := by
  obtain ⟨⟨c, dct, dt, sl⟩, hl, hc, n, hd⟩ := hL
  replace hc : c = .type "tuple" := hc
  replace hd : dt = .seq items n := hd
  subst hc hd
  refine callType_new F.called_enumerate (by decide) (F.typeCall_enumerate_1 _) (F.newCall_enumerate_1 _) (fun obj => F.args_object_init_2 obj _) F.entry_enumerate_new
    (meets_enumerate_newT l items n dct sl) ⟨hl, ?_⟩
  have hz : (s.heap.push { cls := .type "tuple_iterator", data := .fields #[.ref l, .int 0 0] }).objs.size = s.heap.objs.size + 1 := Heap.size_push ..
  show _ ∧ _
  rw [hz]
  have he : IsEnum ((s.heap.push { cls := .type "tuple_iterator", data := .fields #[.ref l, .int 0 0] }).push
      { cls := .type "enumerate", data := .fields #[.none, .bool false, .ref s.heap.objs.size, rawInt 0, .none, .none] }) (s.heap.objs.size + 1) s.heap.objs.size 0 .none := by
    have := Heap.get?_push_size (s.heap.push { cls := .type "tuple_iterator", data := .fields #[.ref l, .int 0 0] })
      (o := { cls := .type "enumerate", data := .fields #[.none, .bool false, .ref s.heap.objs.size, rawInt 0, .none, .none] }) rfl
    rw [hz] at this; exact this
  refine ⟨⟨_, he, rfl⟩, h _ he ⟨_, Heap.get?_push_of_some _ (Heap.get?_push_size _ rfl), rfl, rfl⟩ (by rw [Heap.size_push, hz]) fun b o x => Heap.get?_push_of_some _ (Heap.get?_push_of_some _ x)⟩
theorem draws_tuple {prog : Program} {w : World} {A : Around} (hh : A.handled = none) (it l : Addr) (hne : l ≠ it) (items : Array Value) :
    Draws prog w A it [it, l] items.size (fun i v => items[i]? = some v) (fun i h => h.IsTupleIter it l i ∧ h.IsTuple l items) where
  live := fun _ _ st => let ⟨o, ho, _⟩ := st.1; ⟨o, ho⟩
  frame := fun _ _ _ st hk => ⟨st.1.at fun o e => hk it (by simp) o e, (by
    obtain ⟨o, h1, h2⟩ := st.2
    exact ⟨o, hk l (by simp) o h1, h2⟩)⟩
  item := fun i s Q E hi st hQ => by
    refine RZ.nextOf_tuple_item st.1 st.2 (x := items[i]) (by simp [hi]) fun h' hit' hs' => ?_
    exact hQ _ h' s.toks (by simp [hi]) ⟨hit', (by
      obtain ⟨o, h1, h2⟩ := st.2
      exact ⟨o, (hs'.2 l hne).trans h1, h2⟩)⟩ hs'
  done := fun s Q E st hE => RZ.nextOf_tuple_end hh st.1 st.2 (by simp) hE
end
end MXE
namespace MX
open PySem PySem.Spec PyProof.Rows L2
def IteT (K : PySem.W.Frag) (a : Addr) : It :=
  ⟨fun i H => ∃ (xs : List V) (x : V), SqT K H a xs ∧ xs[i]? = some x, fun i H v H' => ∃ T x, v = .ref T ∧ H T = none ∧ H' = upd H T (.tup [.int (i : Nat), x]) ∧ ∀ xs, SqT K H a xs → xs[i]? = some x, fun i H => ∃ xs : List V, SqT K H a xs ∧ xs.length ≤ i⟩
theorem turn_enumT {P : Program} {w : World} {K : PySem.W.Frag} {elts : List Expr} {kk : Nat} {tpos : Pos} (a e it : Addr) :
    Turn P w K (.Tuple elts kk tpos) (IteT K a) [e, it] e (fun i h => (∃ old, IsEnum h e it ((i : Nat) : Int) old) ∧ h.IsTupleIter it a i ∧ e ≠ it ∧ a ≠ it) where
  mem := by simp
  obj := fun i h st b hb => by
    obtain ⟨⟨old, he⟩, ⟨o, ho, hc, hd⟩, _⟩ := st
    have e' : b = e ∨ b = it := by simpa using hb
    rcases e' with z | z
    · rw [z]; exact ⟨_, he, fun v q => nomatch q⟩
    · rw [z]; exact ⟨o, ho, fun v q => by rw [hd] at q; cases q⟩
  keep := fun i h h' st k => let ⟨⟨old, he⟩, hi, hne⟩ := st; ⟨⟨old, k e (by simp) _ he⟩, hi.at fun o q => k it (by simp) o q, hne⟩
  item := by
    intro X hP hw hK hc i pins s σ H E I hf st hg
    subst hP hw hK
    obtain ⟨⟨old, he⟩, hit, hne, hai⟩ := st
    obtain ⟨xs, x, hq, hx⟩ := hg
    obtain ⟨its, rv, p, hz⟩ := I.tuple hq
    obtain ⟨u, hu, ru⟩ := rv.get hx
    have hel : e < s.heap.objs.size := Heap.lt_size he
    have hil : it < s.heap.objs.size := by obtain ⟨_, q, _⟩ := hit; exact Heap.lt_size q
    have hea : e ≠ a := fun z => by
      obtain ⟨o, h1, h2, _⟩ := p
      rw [← z, he] at h1
      cases h1
      exact absurd (Value.type.inj (show Value.type "enumerate" = Value.type "tuple" from h2)) (by decide)
    have hlt : i < its.toArray.size := by
      have := (List.getElem?_eq_some_iff.mp hu).1
      simpa using this
    refine wpAny_pyNext_enum_itemD (MXE.draws_tuple (A := X.A.in1) (I.ok.hd hc) it a hai its.toArray) he ⟨hit, p⟩ hlt hne (by simp [hne, hea]) fun u' h' tk hP' ho st' hT hsz hk => ?_
    have eu : u' = u := by
      have hP' : its.toArray[i]? = some u' := hP'
      have : its[i]? = some u' := by simpa using hP'
      rw [hu] at this; exact (Option.some.inj this).symm
    subst eu
    refine ⟨_, rfl, wpAny_letOwnedTupleGo_enum (s := { s with heap := h', toks := tk + 1 }) ho fun h'' he' sb => ?_⟩
    have hT2 : h''.get? s.heap.objs.size = some { cls := .type "tuple", data := .seq #[.int i tk, u'] } := (sb.2 _ (Nat.ne_of_gt hel)).trans hT
    have new : ObjOk X.prog X.w (upd H s.heap.objs.size (.tup [.int (i : Nat), x])) h'' s.heap.objs.size (.tup [.int (i : Nat), x]) :=
      ⟨by show 2 ≤ sizeLine; decide, [.int i tk, u'], .cons ⟨_, rfl⟩ (.cons ru .nil), ⟨_, hT2, rfl, _, rfl⟩⟩
    have I1 : Inv X pins σ (upd H s.heap.objs.size (.tup [.int (i : Nat), x])) { s with heap := h'', toks := tk + 1 } :=
      I.turnedNew (ch := [e, it]) (fun b ob hb q => (sb.2 b (fun z => hb (by simp [z]))).trans (hk b ob (fun z => hb (by simp [z])) (fun z => hb (by simp [z])) q)) hf (Nat.le_refl _) new
    refine ⟨.ref s.heap.objs.size, _, I1, rfl, ⟨_, x, rfl, I.hok.fresh (Nat.le_refl _), rfl, fun ys hy => by rw [I.tuple_inj hy hq]; exact hx⟩, ⟨⟨u', ?_⟩, st'.1.at fun o q => (sb.2 it (Ne.symm hne)).trans q, hne, hai⟩, fun b hb => ?_⟩
    · have e1 : ((i + 1 : Nat) : Int) = (i : Int) + 1 := by omega
      rw [e1]; exact he'
    · have hb' : b < s.heap.objs.size := by
        have e' : b = e ∨ b = it := by simpa using hb
        rcases e' with z | z
        · rw [z]; exact hel
        · rw [z]; exact hil
      rw [upd_ne (Nat.ne_of_lt hb')]
      exact (hf b hb).1
  done := by
    intro X hP hw hK hc i pins s σ H E I hf st hg
    subst hP hw hK
    obtain ⟨⟨old, he⟩, hit, hne, hai⟩ := st
    obtain ⟨xs, hq, hx⟩ := hg
    obtain ⟨its, rv, p, hz⟩ := I.tuple hq
    obtain ⟨f0, f1, f2, f3, f4, f5⟩ := hf it (by simp)
    have hl := rv.length
    have D := RZ.nextOf_tuple_end (prog := X.prog) (w := X.w) (A := X.A.in1) (E := E) (s := s) (Q := fun _ _ => False) (show X.A.in1.handled = none from I.ok.hd hc) hit (show s.heap.IsTuple a its.toArray from p) (by simp; omega)
    -- the end by hand: any place behind the last one ends alike
    unfold pyNext
    refine wpAny_bind (wpAny_attempt (wpAny_callSpecial?_slot (name := Str.ofString "__next__") (show s.TypeIs (.ref e) "enumerate" from ⟨_, he, rfl⟩) F.slot_enumerate_next
      (wpAny_call_entry F.slot_enumerate_next (show s.TypeIs (.ref e) "enumerate" from ⟨_, he, rfl⟩) F.entry_enumerate_next ?_ (F.args_enumerate_next_1 _))))
    show wpAny _ _ (field (.ref e) 2 >>= _) _ _ _
    refine wpAny_bind (wpAny_field he rfl (x := .ref it) rfl ?_)
    refine wpAny_bind (RZ.nextOf_tuple_end (show X.A.in1.handled = none from I.ok.hd hc) hit (show s.heap.IsTuple a its.toArray from p) (by simp; omega) fun h' x he' hx' => ?_)
    obtain ⟨o, ho, hcl⟩ := hx'
    refine wpAny_bind (wpAny_isInstance (T := "StopIteration") (b := true) ⟨o, ho, hcl⟩ isSubtype_stop ?_)
    exact wpAny_pure ⟨rfl, I.turned (t' := s.toks) (fun b o hb q => he' b o hb q) f0 f1 f3 f4 f5⟩
  self := fun A i s Q E st h => let ⟨⟨_, he⟩, _⟩ := st; wpAny_pyIter_enum he h
def iEnumT (K : PySem.W.Frag) (ta : TA) : TI := fun σ H R => ta σ H fun vs H1 => ∃ a xs, vs = [.ref a] ∧ SqT K H1 a xs ∧ R (IteT K a) H1
theorem pi_enumT {X : Cx} {e : Expr} {ta : TA} {p pos tpos : Pos} {elts : List Expr} {kk : Nat} (hg : Gl X "enumerate") (hm : X.mg "enumerate" = none) (ha : PA X [e] ta) (hs : starEach [e] X.env = [(false, eval e X.env)] := by rfl) :
    PI X (.Tuple elts kk tpos) (.Call (.Name "enumerate" p) [e] [] pos) (iEnumT X.K ta) := by
  refine ⟨fun pins s σ H R I h => ?_⟩
  refine Call_ (ld_blt I hg hm boot_enumerate (PyProof.Rows.callWith_type1 (thn (ha.run pos pins s σ H _ I h) fun us s1 ⟨vs, H1, I1, r1, q1⟩ => ?_) hs rfl))
  obtain ⟨a, xs, ex, hq, q⟩ := q1
  subst ex
  cases r1 with
  | cons r rr =>
    cases rr
    cases r
    obtain ⟨its, rv, p', hz⟩ := I1.tuple hq
    have hal : a < s1.heap.objs.size := by
      obtain ⟨o, ho, _⟩ := p'
      exact Heap.lt_size ho
    refine MXE.call_enumerate_tuple p' fun h' he hit hsz hk => wpAny_pyIter_enum he ?_
    have I2 : Inv X pins σ H1 { s1 with heap := h' } := I1.kept (t' := s1.toks) hk
    refine ⟨s1.heap.objs.size + 1, [s1.heap.objs.size + 1, s1.heap.objs.size], _, _, H1, rfl, I2, turn_enumT a (s1.heap.objs.size + 1) s1.heap.objs.size, ⟨⟨.none, he⟩, hit, Nat.succ_ne_self _, Nat.ne_of_lt hal⟩, fun b hb => ?_, q⟩
    have e' : b = s1.heap.objs.size + 1 ∨ b = s1.heap.objs.size := by simpa using hb
    have hle : s1.heap.objs.size ≤ b := by
      rcases e' with z | z
      · rw [z]; exact Nat.le_add_right _ _
      · rw [z]; exact Nat.le_refl _
    exact I1.fpOk hle (I1.hok.fresh hle)

section
variable {X : Cx} {e : Expr} {te : Sx} {pos : Pos}
theorem JOk.enumL {g : Gh} {a : Addr} {src : Src} (h : ∀ (g' : Gh) (S : Sto) (H : Hp) (ys : List PV), g.lv g' → RepS X.K X.mg g' S H → srcGet src S = some ys → ∃ xs vs, ys = enumP 0 xs ∧ SqL X.K H a vs ∧ RepVs X.K g' xs vs) : JOk X g src (Ite X.K a) := fun i H g' S ys l hS e => by
  obtain ⟨xs, vs, q0, q1, q2⟩ := h g' S H ys l hS e
  subst q0
  refine ⟨fun hi => ⟨vs, q1, by rw [enumP_length] at hi; rw [← q2.length]; exact hi⟩, fun y hy => ?_⟩
  rw [enumP_get] at hy
  cases hx : xs[i]? with
  | none => rw [hx] at hy; cases hy
  | some x =>
    rw [hx] at hy
    obtain ⟨v, e1, r⟩ := q2.get hx
    refine ⟨⟨vs, v, q1, e1⟩, fun u H' ⟨T, x', e2, hT, e3, k⟩ => ?_⟩
    subst e2 e3
    have := k vs q1
    rw [e1] at this; cases this
    obtain ⟨h1, l1⟩ := hS.froze (o := .tup [.int (i : Nat), v]) hT
    cases hy
    refine ⟨_, l1, h1, T, [.int (i : Nat), v], rfl, .inl (.inl upd_same), ?_⟩
    exact .cons (by show V.int _ = V.int _; simp) (.cons (RepV.mono l1 _ _ r) .nil)
theorem JOk.enumT {g : Gh} {a : Addr} {xs : List PV} {vs : List V} (h : SqT X.K g.fz a vs) (r : RepVs X.K g xs vs) : JOk X g (.items (enumP 0 xs)) (IteT X.K a) := fun i H g' S ys l hS e => by
  cases e
  have q1 : SqT X.K H a vs := SqT.mono (fun b o z => hS.fz b o (l.fz b o z)) h
  refine ⟨fun hi => ⟨vs, q1, by rw [enumP_length] at hi; rw [← r.length]; exact hi⟩, fun y hy => ?_⟩
  rw [enumP_get] at hy
  cases hx : xs[i]? with
  | none => rw [hx] at hy; cases hy
  | some x =>
    rw [hx] at hy
    obtain ⟨v, e1, r1⟩ := r.get hx
    refine ⟨⟨vs, v, q1, e1⟩, fun u H' ⟨T, x', e2, hT, e3, k⟩ => ?_⟩
    subst e2 e3
    have := k vs q1
    rw [e1] at this; cases this
    obtain ⟨h1, l1⟩ := hS.froze (o := .tup [.int (i : Nat), v]) hT
    cases hy
    refine ⟨_, l1, h1, T, [.int (i : Nat), v], rfl, .inl (.inl upd_same), ?_⟩
    exact .cons (by show V.int _ = V.int _; simp) (.cons (RepV.mono l1 _ _ (RepV.monoV l _ _ r1)) .nil)
def srcEnum (v : PV) (S1 : Sto) : Out Src := match v with
  | .tup xs => .ok (.items (enumP 0 xs)) S1
  | .lst xs => .ok (.items (enumP 0 xs)) S1
  | .ref n => match listOf S1 (.ref n) with
    | some _ => .ok (.liveE n) S1
    | none => .stuck
  | _ => .stuck
def siEnum (te : Sx) : Si := fun sp S => (te sp S).bind srcEnum
theorem si_enum {elts : List Expr} {kk : Nat} {p tpos : Pos} (hg : Gl X "enumerate") (hm : X.mg "enumerate" = none) (he : PE X e (rdE X te)) (hs : starEach [e] X.env = [(false, eval e X.env)] := by rfl) :
    PI X (.Tuple elts kk tpos) (.Call (.Name "enumerate" p) [e] [] pos) (rdI X (siEnum te)) := by
  refine ((pi_enum hg hm (pa_cons he pa_nil (by rw [hs]; rfl)) hs).or (pi_enumT hg hm (pa_cons he pa_nil (by rw [hs]; rfl)) hs)).imp fun σ H R ⟨g, sp, S, hS, hE, p⟩ => ?_
  cases h : te sp S with
  | exc x S1 =>
    refine .inl ⟨g, sp, S, hS, hE, ?_⟩
    unfold siEnum at p
    rw [h] at p ⊢
    exact p
  | stuck =>
    unfold siEnum at p
    rw [h] at p
    exact p.elim
  | ok v S1 =>
    have go : ∀ (Q : VK), (∀ x H1, (∃ g1, g.le g1 ∧ RepS X.K X.mg g1 S1 H1 ∧ RepE X.K g1 sp σ ∧ RepV X.K g1 v x ∧ Post X g1 (JOk X) (ExcT X g1 sp) (srcEnum v S1) R) → Q x H1) → rdE X te σ H Q := fun Q hQ => by
      refine ⟨g, sp, S, hS, hE, ?_⟩
      rw [h]
      intro x H1 g1 l1 q1 r1
      refine hQ x H1 ⟨g1, l1, q1, hE.mono l1, r1, ?_⟩
      unfold siEnum at p
      rw [h] at p
      exact (Post.imp (show Post X g (JOk X) (ExcT X g sp) (srcEnum v S1) R from p) (fun x S' t => t.mono l1) fun _ _ q => q).le l1
    cases v with
    | tup xs =>
      refine .inr (go _ fun x H1 ⟨g1, l1, q1, e1, ⟨a, vs, ex, k1, k2⟩, p1⟩ => ?_)
      subst ex
      exact ⟨a, vs, rfl, SqT.mono q1.fz k1, p1 _ H1 g1 (.refl _) q1 (JOk.enumT k1 k2)⟩
    | lst xs =>
      refine .inl (go _ fun x H1 ⟨g1, l1, q1, e1, ⟨a, vs, ex, k1, k2⟩, p1⟩ => ?_)
      subst ex
      refine ⟨a, vs, rfl, (LsQ.mono q1.fz k1).sq, p1 _ H1 g1 (.refl _) q1 (JOk.enumL fun g' S' H' ys l hS' e' => ?_)⟩
      cases e'
      exact ⟨xs, vs, rfl, (LsQ.mono (fun b o z => hS'.fz b o (l.fz b o z)) k1).sq, RepVs.monoV l _ _ k2⟩
    | ref n =>
      refine .inl (go _ fun x H1 ⟨g1, l1, q1, e1, r1, p1⟩ => ?_)
      obtain ⟨a, ex, em⟩ := id r1
      unfold srcEnum at p1
      cases h2 : listOf S1 (.ref n) with
      | none => simp only [h2] at p1; exact p1.elim
      | some xs =>
        simp only [h2] at p1
        obtain ⟨a', vs, ex', k1, k2⟩ := q1.list r1 h2
        subst ex
        cases ex'
        refine ⟨a, vs, rfl, k1.sq, p1 _ H1 g1 (.refl _) q1 (JOk.enumL fun g' S' H' ys l hS' e' => ?_)⟩
        have e'' : (listOf S' (.ref n)).map (enumP 0) = some ys := e'
        cases h3 : listOf S' (.ref n) with
        | none => rw [h3] at e''; cases e''
        | some zs =>
          rw [h3] at e''; cases e''
          obtain ⟨a2, ws, ex2, k3, k4⟩ := hS'.list (RepV.monoV l _ _ r1) h3
          cases ex2
          exact ⟨zs, ws, rfl, k3.sq, k4⟩
    | _ =>
      unfold siEnum at p
      rw [h] at p
      exact p.elim
/-- zip of two lists or two tuples that stand -/
def zipP : List PV → List PV → List PV
  | x :: xs, y :: ys => .tup [x, y] :: zipP xs ys
  | _, _ => []
theorem zipP_get : ∀ (xs ys : List PV) (k : Nat), (zipP xs ys)[k]? = (match xs[k]?, ys[k]? with
    | some x, some y => some (PV.tup [x, y])
    | _, _ => none)
  | [], _, _ => by simp [zipP]
  | _ :: _, [], _ => by simp [zipP]
  | x :: xs, y :: ys, 0 => by simp [zipP]
  | x :: xs, y :: ys, k + 1 => by
    simp only [zipP, List.getElem?_cons_succ]
    exact zipP_get xs ys k
theorem zipP_length : ∀ (xs ys : List PV), (zipP xs ys).length = min xs.length ys.length
  | [], _ => by simp [zipP]
  | _ :: _, [] => by simp [zipP]
  | x :: xs, y :: ys => by simp [zipP, zipP_length xs ys]
def siZip (ta tb : Sx) : Si := fun sp S => (ta sp S).bind fun v S1 => (tb sp S1).bind fun w S2 => match v, w with
  | .tup xs, .tup ys => .ok (.items (zipP xs ys)) S2
  | .lst xs, .lst ys => .ok (.items (zipP xs ys)) S2
  | _, _ => .stuck
theorem si_zip {a b : Expr} {ta tb : Sx} {elts : List Expr} {kk : Nat} {p tpos : Pos} (hg : Gl X "zip") (hm : X.mg "zip" = none) (ha : PE X a (rdE X ta)) (hb : PE X b (rdE X tb)) (hs : starEach [a, b] X.env = (false, eval a X.env) :: starEach [b] X.env := by rfl) (hs2 : starEach [b] X.env = (false, eval b X.env) :: starEach [] X.env := by rfl)
    (hpl : (backTo pos (starEach [b] X.env)).any (·.1) = false := by rfl) :
    PI X (.Tuple elts kk tpos) (.Call (.Name "zip" p) [a, b] [] pos) (rdI X (siZip ta tb)) :=
  (RZ.pi_zipA hg hm (pa_cons ha (pa_cons hb pa_nil hs2) hs) hs hpl).imp fun σ H R ⟨g, sp, S, hS, hE, p⟩ => by
    refine (rdE.fst hS hE p).mono fun x H1 ⟨v, g1, S1, l1, q1, e1, r1, p1⟩ => ?_
    refine (rdE.fst q1 e1 p1).mono fun y H2 ⟨w, g2, S2, l2, q2, e2, r2, p2⟩ => ?_
    cases v with
    | tup xs =>
      cases w with
      | tup ys =>
        obtain ⟨a, vs, ex, k1, k2⟩ := RepV.mono l2 _ _ r1
        obtain ⟨b, ws, ey, k3, k4⟩ := r2
        subst ex ey
        refine ⟨a, b, vs, ws, rfl, .inr ⟨SqT.mono q2.fz k1, SqT.mono q2.fz k3, p2 _ H2 g2 (.refl _) q2 ?_⟩⟩
        intro i H3 g3 S3 zs l3 hS3 e3
        cases e3
        have j1 : SqT X.K H3 a vs := SqT.mono (fun b o z => hS3.fz b o (l3.fz b o z)) k1
        have j2 : SqT X.K H3 b ws := SqT.mono (fun b o z => hS3.fz b o (l3.fz b o z)) k3
        refine ⟨fun hi => ⟨vs, ws, j1, j2, by rw [zipP_length] at hi; rw [← k2.length, ← k4.length]; omega⟩, fun z hz => ?_⟩
        rw [zipP_get] at hz
        cases h1 : xs[i]? with
        | none => rw [h1] at hz; cases hz
        | some x =>
          cases h2 : ys[i]? with
          | none => rw [h1, h2] at hz; cases hz
          | some y =>
            rw [h1, h2] at hz
            cases hz
            obtain ⟨v, f1, f2⟩ := k2.get h1
            obtain ⟨w, f3, f4⟩ := k4.get h2
            refine ⟨⟨vs, ws, v, w, j1, j2, f1, f3⟩, fun u H' ⟨T, x', y', e2, hT, e3, kx, ky⟩ => ?_⟩
            subst e2 e3
            have t1 := kx vs j1
            have t2 := ky ws j2
            rw [f1] at t1; cases t1
            rw [f3] at t2; cases t2
            obtain ⟨z1, lz⟩ := hS3.froze (o := .tup [v, w]) hT
            exact ⟨_, lz, z1, T, [v, w], rfl, .inl (.inl upd_same), .cons (RepV.mono lz _ _ (RepV.monoV l3 _ _ f2)) (.cons (RepV.mono lz _ _ (RepV.monoV l3 _ _ f4)) .nil)⟩
      | _ => exact p2.elim
    | lst xs =>
      cases w with
      | lst ys =>
        obtain ⟨a, vs, ex, k1, k2⟩ := RepV.mono l2 _ _ r1
        obtain ⟨b, ws, ey, k3, k4⟩ := r2
        subst ex ey
        refine ⟨a, b, vs, ws, rfl, .inl ⟨(LsQ.mono q2.fz k1).sq, (LsQ.mono q2.fz k3).sq, p2 _ H2 g2 (.refl _) q2 ?_⟩⟩
        intro i H3 g3 S3 zs l3 hS3 e3
        cases e3
        have j1 : SqL X.K H3 a vs := (LsQ.mono (fun b o z => hS3.fz b o (l3.fz b o z)) k1).sq
        have j2 : SqL X.K H3 b ws := (LsQ.mono (fun b o z => hS3.fz b o (l3.fz b o z)) k3).sq
        refine ⟨fun hi => ⟨vs, ws, j1, j2, by rw [zipP_length] at hi; rw [← k2.length, ← k4.length]; omega⟩, fun z hz => ?_⟩
        rw [zipP_get] at hz
        cases h1 : xs[i]? with
        | none => rw [h1] at hz; cases hz
        | some x =>
          cases h2 : ys[i]? with
          | none => rw [h1, h2] at hz; cases hz
          | some y =>
            rw [h1, h2] at hz
            cases hz
            obtain ⟨v, f1, f2⟩ := k2.get h1
            obtain ⟨w, f3, f4⟩ := k4.get h2
            refine ⟨⟨vs, ws, v, w, j1, j2, f1, f3⟩, fun u H' ⟨T, x', y', e2, hT, e3, kx, ky⟩ => ?_⟩
            subst e2 e3
            have t1 := kx vs j1
            have t2 := ky ws j2
            rw [f1] at t1; cases t1
            rw [f3] at t2; cases t2
            obtain ⟨z1, lz⟩ := hS3.froze (o := .tup [v, w]) hT
            exact ⟨_, lz, z1, T, [v, w], rfl, .inl (.inl upd_same), .cons (RepV.mono lz _ _ (RepV.monoV l3 _ _ f2)) (.cons (RepV.mono lz _ _ (RepV.monoV l3 _ _ f4)) .nil)⟩
      | _ => exact p2.elim
    | _ => exact p2.elim
end
end MX

end

section
/-! Comprehensions as rules; stores to items; methods; dicts; defs and calls; repr; the end of a law. -/
namespace MX
open PySem PySem.Spec PyProof.Rows L2

/-! ### comprehensions -/
section
variable {X : Cx} {elt tg iter : Expr} {ifs : List Expr} {scope : Scope} {own : List (Str × Nat)} {pos : Pos} {ti : Si} {t : Sg} {is : List Nat} {tc : St'} {te : Sx} {fin : VN}
theorem pts_0 {X : Cx} {c : Expr} {t : St'} (h : PT X c (rdT X t)) : PTs X [c] (rdT0 X t) := pts_one (pt_0 h)
theorem pts_yes {X : Cx} : PTs X [] (rdT0 X stYes) := ⟨fun pins s σ H Q I ⟨g, sp, S, hS, hE, p⟩ => pts_nil.run pins s σ H Q I (p true H g (.refl _) hS rfl)⟩
theorem se_lc (own : List (Str × Nat)) (hf : FinL X fin) (hc : X.calm = true) (hN : X.N.Nodup) (hi : PI X tg iter (rdI X ti)) (ok : BlkOk X.N X.env.scope scope own)
    (hg : ∀ (s : Shared) (H : Hp) (C : Addr) (cl : List (Str × Addr)) (fp : List Addr), PG (X.blk s H scope (compEnvC scope cl C X.env) fp) tg (rdG X is t))
    (ht : ∀ (s : Shared) (H : Hp) (C : Addr) (cl : List (Str × Addr)) (fp : List Addr), PTs (X.blk s H scope (compEnvC scope cl C X.env) fp) ifs (rdT0 X tc))
    (he : ∀ (s : Shared) (H : Hp) (C : Addr) (cl : List (Str × Addr)) (fp : List Addr), PE (X.blk s H scope (compEnvC scope cl C X.env) fp) elt (rdE0 X te))
    (hv : ∀ i ∈ is, i ∈ own.map (·.2) := by decide) (hs : ∀ x, foldedSetIterable iter X.env x = pure x := by intro _; rfl) :
    PE X (.ListComp elt [⟨tg, iter, ifs, 0⟩] scope pos) (rdE X (sxLc fin ti (own.map (·.2)) t tc te)) := (pe_lc hc hN hi ok hg ht he hs).imp fun _ _ _ h => rdLc hf hv h
/-- name = [..] -/
theorem ss_setLc (i : Nat) (own : List (Str × Nat)) {y : Str} {py spos : Pos} (hf : FinL X fin) (hc : X.calm = true) (hN : X.N.Nodup) (hi : PI X tg iter (rdI X ti)) (ok : BlkOk X.N X.env.scope scope own)
    (hg : ∀ (s : Shared) (H : Hp) (C : Addr) (cl : List (Str × Addr)) (fp : List Addr), PG (X.blk s H scope (compEnvC scope cl C X.env) fp) tg (rdG X is t))
    (ht : ∀ (s : Shared) (H : Hp) (C : Addr) (cl : List (Str × Addr)) (fp : List Addr), PTs (X.blk s H scope (compEnvC scope cl C X.env) fp) ifs (rdT0 X tc))
    (he : ∀ (s : Shared) (H : Hp) (C : Addr) (cl : List (Str × Addr)) (fp : List Addr), PE (X.blk s H scope (compEnvC scope cl C X.env) fp) elt (rdE0 X te))
    (hsw : swapsWith (.ListComp elt [⟨tg, iter, ifs, 0⟩] scope pos) (some (.Name y py)) spos.line X.env = pure true := by exact sw_true rfl rfl rfl (by decide +kernel))
    (hy : X.N[i]? = some y := by rfl) (hyl : X.env.scope.names.lookup y = some .local := by rfl) (hv : ∀ i ∈ is, i ∈ own.map (·.2) := by decide) (hs : ∀ x, foldedSetIterable iter X.env x = pure x := by intro _; rfl) :
    PS X (.Assign [.Name y py] (.ListComp elt [⟨tg, iter, ifs, 0⟩] scope pos) spos) (rdS X (ssSet i (sxLc fin ti (own.map (·.2)) t tc te))) := (ps_setLc hc hN hy hyl hsw hi ok hg ht he hs).imp fun D σ H ⟨g, sp, S, hS, hE, p⟩ => by
  have p : PostS X g (bindS (sxLc fin ti (own.map (·.2)) t tc te sp S) sp fun v S1 => .nx (sp.set i (some v)) S1) D := p
  have q := rdE.sq hS hE p
  refine rdLc hf hv (q.mono fun x H1 ⟨a, g1, S1, l1, q1, e1, r1, p1⟩ => ?_)
  exact p1 _ H1 g1 (.refl _) q1 (e1.set r1 i)
end

/-! ### o[i] = v -/
def putP (kvs : List (Key × PV)) (k : Key) (v : PV) : List (Key × PV) :=
  if (kvs.any fun kv => decide (kv.1 = k)) then kvs.map fun kv => if kv.1 = k then (kv.1, v) else kv else kvs ++ [(k, v)]
def valP (kvs : List (Key × PV)) (k : Key) : Option PV := (kvs.find? fun kv => decide (kv.1 = k)).map (·.2)
def keyP : PV → Option Key
  | .int i => some (.inl i)
  | .str z => some (.inr z)
  | _ => none
section
variable {K : PySem.W.Frag} {g : Gh}
theorem RepKV.any {kvs : List (Key × PV)} {ws : List (Key × V)} (r : RepKV K g kvs ws) (k : Key) : (kvs.any fun kv => decide (kv.1 = k)) = ws.any fun kv => decide (kv.1 = k) := by
  induction r with
  | nil => rfl
  | cons h t ih => rw [List.any_cons, List.any_cons, ih, h.1]
theorem RepKV.val {kvs : List (Key × PV)} {ws : List (Key × V)} (r : RepKV K g kvs ws) {k : Key} {v : PV} (h : valP kvs k = some v) : ∃ w, valV ws k = some w ∧ RepV K g v w := by
  induction r with
  | nil => cases h
  | @cons p q ps qs hh t ih =>
    unfold valP at h
    rw [List.find?_cons] at h
    by_cases e : p.1 = k
    · simp only [e, decide_true, Option.map_some] at h
      cases h
      exact ⟨q.2, valV_pos (by rw [← hh.1]; exact e), hh.2⟩
    · simp only [e, decide_false] at h
      obtain ⟨w, h1, h2⟩ := ih h
      exact ⟨w, by rw [valV_neg (by rw [← hh.1]; exact e)]; exact h1, h2⟩
theorem RepKV.valN {kvs : List (Key × PV)} {ws : List (Key × V)} (r : RepKV K g kvs ws) {k : Key} (h : valP kvs k = none) : valV ws k = none := by
  induction r with
  | nil => rfl
  | @cons p q ps qs hh t ih =>
    unfold valP at h
    rw [List.find?_cons] at h
    by_cases e : p.1 = k
    · simp only [e, decide_true, Option.map_some] at h
      cases h
    · simp only [e, decide_false] at h
      rw [valV_neg (by rw [← hh.1]; exact e)]
      exact ih h
theorem RepKV.repl {kvs : List (Key × PV)} {ws : List (Key × V)} (r : RepKV K g kvs ws) (k : Key) {v : PV} {w : V} (rv : RepV K g v w) :
    RepKV K g (kvs.map fun kv => if kv.1 = k then (kv.1, v) else kv) (ws.map fun kv => if kv.1 = k then (kv.1, w) else kv) := by
  induction r with
  | nil => exact .nil
  | @cons p q ps qs hh t ih =>
    rw [List.map_cons, List.map_cons]
    refine .cons ?_ ih
    by_cases e : p.1 = k
    · rw [if_pos e, if_pos (by rw [← hh.1]; exact e)]
      exact ⟨hh.1, rv⟩
    · rw [if_neg e, if_neg (by rw [← hh.1]; exact e)]
      exact hh
theorem RepKV.snoc {kvs : List (Key × PV)} {ws : List (Key × V)} (r : RepKV K g kvs ws) (k : Key) {v : PV} {w : V} (rv : RepV K g v w) : RepKV K g (kvs ++ [(k, v)]) (ws ++ [(k, w)]) := by
  induction r with
  | nil => exact .cons ⟨rfl, rv⟩ .nil
  | @cons p q ps qs hh t ih => exact .cons hh ih
theorem RepKV.put {kvs : List (Key × PV)} {ws : List (Key × V)} (r : RepKV K g kvs ws) (k : Key) {v : PV} {w : V} (rv : RepV K g v w) : RepKV K g (putP kvs k v) (putK ws k w) := by
  unfold putP putK
  rw [r.any k]
  split
  · exact r.repl k rv
  · exact r.snoc k rv
theorem RepKV.length {kvs : List (Key × PV)} {ws : List (Key × V)} (r : RepKV K g kvs ws) : kvs.length = ws.length := Paired.length r
theorem keyP_rep {a : PV} {x : V} {k : Key} (r : RepV K g a x) (h : keyP a = some k) : x = kV k := by
  cases a with
  | int i => cases h; exact r
  | str z => cases h; exact r
  | _ => cases h
end
def vSet : PV → PV → PV → Sto → Option Sto := fun o i v S => match o with
  | .ref n => match S[n]?, i with
    | some (.lst xs), .int k => (ixN xs.length k).map fun j => S.set n (.lst (xs.set j v))
    | some (.dct kvs), i => (keyP i).bind fun k => if kvs.length < sizeLine then some (S.set n (.dct (putP kvs k v))) else none
    | _, _ => none
  | _ => none
def rVSet (X : Cx) : TSet := fun o i v H Q => ∃ g S a b c S', RepS X.K X.mg g S H ∧ RepV X.K g a o ∧ RepV X.K g b i ∧ RepV X.K g c v ∧ vSet a b c S = some S' ∧ ∀ H' g', g.le g' → RepS X.K X.mg g' S' H' → Q H'
section
variable {X : Cx}
theorem set_any (hu : X.A.units + 1 < cLine) : PSet X (rVSet X) := by
  intro pins s σ H o i v ov iv u Q I ro ri rv ⟨g, S, a, b, c, S', hS, r1, r2, r3, e, k⟩
  cases a with
  | ref n =>
    obtain ⟨p, ex, em⟩ := r1
    subst ex
    obtain ⟨so, h2⟩ := hS.at_ em
    have q := hS.ob n so p h2 em
    unfold vSet at e
    simp only [h2] at e
    cases so with
    | lst xs =>
      obtain ⟨vs, q1, q2⟩ := q
      cases b with
      | int z =>
        cases hj : ixN xs.length z with
        | none => simp only [hj] at e; cases e
        | some j =>
          simp only [hj] at e
          cases e
          exact set_list pins s σ H _ i v ov iv u Q I ro ri rv ⟨p, vs, z, j, rfl, r2, q1, by rw [← q2.length]; exact hj, k _ g (.refl _) (hS.put h2 (by intro z; cases z) em ⟨vs.set j v, upd_same, q2.set r3 j⟩)⟩
      | _ => cases e
    | dct kvs =>
      obtain ⟨ws, q1, q2⟩ := q
      have e' : ((keyP b).bind fun k => if kvs.length < sizeLine then some (S.set n (.dct (putP kvs k c))) else none) = some S' := by
        cases b <;> first | exact e | cases e
      cases hk : keyP b with
      | none => rw [hk] at e'; cases e'
      | some kk =>
        rw [hk] at e'
        have e2 : (if kvs.length < sizeLine then some (S.set n (.dct (putP kvs kk c))) else none) = some S' := e'
        split at e2
        · rename_i hl
          cases e2
          have ei := keyP_rep r2 hk
          subst ei
          exact set_dict hu pins s σ H _ _ v ov iv u Q I ro ri rv ⟨p, _, rfl, DPut.k q1 (by rw [← q2.length]; exact hl), k _ g (.refl _) (hS.put h2 (by intro z; cases z) em ⟨putK ws kk v, upd_same, q2.put kk r3⟩)⟩
        · cases e2
    | _ => cases e
  | _ => cases e
def ssSub (to ti te : Sx) : Ss := fun sp S => bindS (te sp S) sp fun v S1 => bindS (to sp S1) sp fun o S2 => bindS (ti sp S2) sp fun i S3 => match vSet o i v S3 with
  | some S4 => .nx sp S4
  | none => .stuck
variable {o i e : Expr} {to ti te : Sx} {pos pos' tpos : Pos}
theorem ss_sub (hu : X.A.units + 1 < cLine) (ho : PE X o (rdE X to)) (hi : PE X i (rdE X ti)) (he : PE X e (rdE X te)) (hs : swapsWithSole [.Subscript o i pos'] e pos.line X.env = pure false := by rfl) (hw : swappedStores [.Subscript o i pos'] e X.env = pure none := by rfl)
    (h1 : (assignEach [.Subscript o i pos'] X.env).map (·.2) = [assign (.Subscript o i pos') X.env] := by rfl)
    (ha : ∀ v, assign (.Subscript o i pos') X.env v = (do
      let ov ← holding [v] (eval o X.env)
      let iv ← holding [v, ov] (eval i X.env)
      standAt pos'
      holding [v, ov, iv] (setItem ov iv v)
      release [v, ov, iv] []) := by intro _; rfl) : PS X (.Assign [.Subscript o i pos'] e pos) (rdS X (ssSub to ti te)) := (ps_asg he (pg_sub ho hi (set_any hu) ha) hs hw h1).imp fun D σ H ⟨g, sp, S, hS, hE, p⟩ => by
  refine (rdE.sq hS hE p).mono fun v H1 ⟨a, g1, S1, l1, q1, e1, r1, p1⟩ => ?_
  refine (rdE.sq q1 e1 p1).mono fun x H2 ⟨b, g2, S2, l2, q2, e2, r2, p2⟩ => ?_
  refine (rdE.sq q2 e2 p2).mono fun y H3 ⟨c, g3, S3, l3, q3, e3, r3, p3⟩ => ?_
  cases h : vSet b c a S3 with
  | none => simp only [h] at p3; exact (show False from p3).elim
  | some S4 =>
    simp only [h] at p3
    exact ⟨g3, S3, b, c, a, S4, q3, RepV.mono l3 _ _ r2, r3, RepV.mono (l2.trans l3) _ _ r1, h, fun H' g' l q => p3 σ H' g' l q (e3.mono l)⟩
/-- xs[i] op= e, xs a list of ints -/
def vItemL : V2 := fun a b S => match b with
  | .int i => (listOf S a).bind fun xs => (atI xs i).map fun x => (x, S)
  | _ => none
theorem get_list : PGet X (rV2 X vItemL) := by
  intro pins s σ H x y v u Q I rx ry ⟨g, S, a, b, hS, r1, r2, p⟩
  cases b with
  | int i =>
    unfold vItemL at p
    simp only at p
    cases hl : listOf S a with
    | none => rw [hl] at p; exact p.elim
    | some xs =>
      rw [hl] at p
      simp only [Option.bind] at p
      cases h2 : atI xs i with
      | none => rw [h2] at p; exact p.elim
      | some z =>
        rw [h2] at p
        obtain ⟨l, vs, q1, q2, q3⟩ := hS.list r1 hl
        subst q1
        cases rx
        obtain ⟨t, rfl⟩ := (show ∃ t, u = Value.int i t from by rw [(show y = V.int i from r2)] at ry; exact ry)
        obtain ⟨w, h3, r3⟩ := q3.at_ h2
        obtain ⟨its, r, pl, hz⟩ := I.list q2.sq
        obtain ⟨j, k1, k2, k3, k4, k5⟩ := atI_get h3
        obtain ⟨w', ew, rw'⟩ := r.get k2
        have hlen := r.length
        have hn := line63
        have fin : EP X pins σ Q w' s := ⟨w, H, I, rw', p.now hS r3⟩
        by_cases h0 : 0 ≤ i
        · have hj : i.toNat = j := by
            rw [seqIndex_of h0 k5] at k1
            exact Option.some.inj k1
          exact wpAny_getItem_list pl.isList h0 (by omega) (by rw [hj]; simpa using ew) fin
        · have hj : (i + (its.toArray.size : Int)).toNat = j := by
            rw [seqIndex_neg (by omega) k4] at k1
            rw [List.size_toArray, ← hlen]
            exact Option.some.inj k1
          exact wpAny_getItem_list_neg pl.isList (by omega) (by rw [List.size_toArray] <;> omega) (by omega) (by rw [hj]; simpa using ew) fin
  | _ => exact p.elim
/-- op= on ints -/
def vIpAdd : V2 := fun a b S => match a, b with
  | .int i, .int j => some (.int (i + j), S)
  | .str x, .str y => if x.length + y.length ≤ sizeLine then some (.str (x ++ y), S) else none
  | _, _ => none
theorem ip_add' : PIp X .Add (rV2 X vIpAdd) := by
  intro pins s σ H x y v u Q I rx ry ⟨g, S, a, b, hS, r1, r2, p⟩
  unfold vIpAdd at p
  split at p
  · rename_i i j
    exact ip_add pins s σ H x y v u Q I rx ry ⟨i, j, r1, r2, p.now hS rfl⟩
  · rename_i z w
    split at p
    · rename_i hl
      exact iop_add_str pins s σ H x y v u Q I rx ry ⟨z, w, r1, r2, hl, p.now hS rfl⟩
    · exact p.elim
  · exact p.elim
theorem ip_sub' : PIp X .Sub (rV2 X vSub) := by
  intro pins s σ H x y v u Q I rx ry ⟨g, S, a, b, hS, r1, r2, p⟩
  cases a <;> cases b <;> try exact p.elim
  rename_i i j
  exact ip_sub pins s σ H x y v u Q I rx ry ⟨i, j, r1, r2, p.now hS rfl⟩
def ssAugSub (op : V2) (to ti te : Sx) : Ss := fun sp S => bindS (to sp S) sp fun o S1 => bindS (ti sp S1) sp fun i S2 => bindS (.of (vItemL o i S2)) sp fun x S3 => bindS (te sp S3) sp fun y S4 => bindS (.of (op x y S4)) sp fun z S5 => match vSet o i z S5 with
  | some S6 => .nx sp S6
  | none => .stuck
theorem PostS.ofSeq {α β : Type} {D : Ends} {g : Gh} {R : Gh → α → β → Prop} {sp : Sl} {o : Option (α × Sto)} {f : α → Sto → SOut} (h : PostS X g (bindS (.of o) sp f) D) :
    PostO X g R o (fun b H1 => ∃ a g1 S1, g.le g1 ∧ RepS X.K X.mg g1 S1 H1 ∧ R g1 a b ∧ PostS X g1 (f a S1) D) := Post.of (PostS.seq h)
theorem PostO.imp {α β : Type} {g : Gh} {R : Gh → α → β → Prop} {o : Option (α × Sto)} {Q Q' : β → Hp → Prop} (h : PostO X g R o Q) (hQ : ∀ b H, Q b H → Q' b H) : PostO X g R o Q' := by
  cases o with
  | none => exact h
  | some p => exact fun b H g' l hS r => hQ b H (h b H g' l hS r)
theorem ss_augsub {op : Operator} {ov : V2} (hu : X.A.units + 1 < cLine) (hop : PIp X op (rV2 X ov)) (ho : PE X o (rdE X to)) (hi : PE X i (rdE X ti)) (he : PE X e (rdE X te))
    (ha : ∀ ov iv new, augStore i ov iv new = (do holding [new, ov, iv] (setItem ov iv new); release [new, ov, iv] []; pure .next) := by intros; rfl) : PS X (.AugAssign (.Subscript o i tpos) op e pos) (rdS X (ssAugSub ov to ti te)) :=
  (ps_augS ho hi get_list he hop (set_any hu) ha).imp fun D σ H ⟨g, sp, S, hS, hE, p⟩ => by
    refine (rdE.sq hS hE p).mono fun v H1 ⟨a, g1, S1, l1, q1, e1, r1, p1⟩ => ?_
    refine (rdE.sq q1 e1 p1).mono fun x H2 ⟨b, g2, S2, l2, q2, e2, r2, p2⟩ => ?_
    refine ⟨g2, S2, a, b, q2, RepV.mono l2 _ _ r1, r2, (PostS.ofSeq (R := RepV X.K) p2).imp fun y H3 ⟨c, g3, S3, l3, q3, r3, p3⟩ => ?_⟩
    refine (rdE.sq q3 (e2.mono l3) p3).mono fun z H4 ⟨d, g4, S4, l4, q4, e4, r4, p4⟩ => ?_
    refine ⟨g4, S4, c, d, q4, RepV.mono l4 _ _ r3, r4, (PostS.ofSeq (R := RepV X.K) p4).imp fun w H5 ⟨f, g5, S5, l5, q5, r5, p5⟩ => ?_⟩
    cases h : vSet a b f S5 with
    | none => simp only [h] at p5; exact (show False from p5).elim
    | some S6 =>
      simp only [h] at p5
      exact ⟨g5, S5, a, b, f, S6, q5, RepV.mono (((l2.trans l3).trans l4).trans l5) _ _ r1, RepV.mono ((l3.trans l4).trans l5) _ _ r2, r5, h, fun H' g' l q => p5 σ H' g' l q ((e4.mono l5).mono l)⟩
/-- name op= e -/
def ssAug (k : Nat) (op : V2) (te : Sx) : Ss := fun sp S => match sp[k]? with
  | some (some x) => bindS (te sp S) sp fun y S1 => bindS (.of (op x y S1)) sp fun z S2 => .nx (sp.set k (some z)) S2
  | _ => .stuck
theorem ss_aug (k : Nat) {x : Str} {op : Operator} {ov : V2} (hop : PIp X op (rV2 X ov)) (hN : X.N.Nodup) (he : PE X e (rdE X te)) (hk : X.N[k]? = some x := by rfl) (hx : Loc X.env.scope x := by first | exact Or.inl rfl | exact Or.inr rfl)
    (hf : X.fn x = true ∨ X.env.scope.names.lookup x = some .local := by first | exact .inl rfl | exact .inr rfl) : PS X (.AugAssign (.Name x pos') op e pos) (rdS X (ssAug k ov te)) := (ps_aug hN hk hx he hop hf).imp fun D σ H ⟨g, sp, S, hS, hE, p⟩ => by
  unfold ssAug at p
  split at p
  · rename_i v hv
    obtain ⟨w, e1, r1⟩ := hE.get k v hv
    refine ⟨w, e1, (rdE.sq hS hE p).mono fun y H1 ⟨a, g1, S1, l1, q1, e1, r2, p1⟩ => ?_⟩
    exact ⟨g1, S1, v, a, q1, RepV.mono l1 _ _ r1, r2, (PostS.ofSeq (R := RepV X.K) p1).imp fun z H2 ⟨c, g2, S2, l2, q2, r3, p2⟩ => p2 _ H2 g2 (.refl _) q2 ((e1.mono l2).set r3 k)⟩
  · exact (show False from p).elim
end

/-! ### methods of lists -/
def isL (S : Sto) (a : PV) : Bool := (listOf S a).isSome
abbrev VM := PV → List PV → Sto → Option (PV × Sto)
def rVM (X : Cx) (o : VM) : V → List V → Hp → VK → Prop := fun x xs H Q => ∃ g S a as, RepS X.K X.mg g S H ∧ RepV X.K g a x ∧ RepVs X.K g as xs ∧ PostO X g (RepV X.K) (o a as S) Q
/-- a method with arguments: chk tells the receiver's type -/
def sxMt (chk : Sto → PV → Bool) (o : VM) (ta : Sx) (tr : Sa) : Sx := fun sp S => (ta sp S).bind fun a S1 => if chk S1 a = true then (tr sp S1).bind fun as S2 => .of (o a as S2) else .stuck
def sxMt0 (chk : Sto → PV → Bool) (o : VM) (ta : Sx) : Sx := fun sp S => (ta sp S).bind fun a S1 => if chk S1 a = true then .of (o a [] S1) else .stuck
structure Chk (X : Cx) (T : String) (chk : Sto → PV → Bool) : Prop where
  ok : ∀ (g : Gh) (S : Sto) (H : Hp) (a : PV) (x : V), RepS X.K X.mg g S H → RepV X.K g a x → chk S a = true → tyV X.K T x H
theorem chk_list {X : Cx} : Chk X "list" isL := ⟨fun g S H a x hS r h => by
  unfold isL at h
  cases hl : listOf S a with
  | none => rw [hl] at h; cases h
  | some xs =>
    obtain ⟨l, vs, q1, q2, q3⟩ := hS.list r hl
    subst q1
    exact .inl ⟨rfl, vs, q2.sq⟩⟩
def isD (S : Sto) (a : PV) : Bool := match a with
  | .ref n => match S[n]? with
    | some (.dct _) => true
    | _ => false
  | _ => false
theorem RepS.dict {K : PySem.W.Frag} {mg : Str → Option Value} {g : Gh} {S : Sto} {H : Hp} {n : Nat} {x : V} {kvs : List (Key × PV)} (hS : RepS K mg g S H) (r : RepV K g (.ref n) x) (h : S[n]? = some (.dct kvs)) : ∃ p ws, x = .ref p ∧ g.m[n]? = some p ∧ H p = some (.dK ws) ∧ RepKV K g kvs ws := by
  obtain ⟨p, e, em⟩ := r
  obtain ⟨ws, q1, q2⟩ := hS.ob n _ p h em
  exact ⟨p, ws, e, em, q1, q2⟩
theorem chk_dict {X : Cx} : Chk X "dict" isD := ⟨fun g S H a x hS r h => by
  unfold isD at h
  split at h
  · split at h
    · rename_i n kvs h2
      obtain ⟨p, ws, e, em, q1, q2⟩ := hS.dict r h2
      subst e
      exact .inr (.inr (.inl ⟨rfl, .inl ⟨ws, q1⟩⟩))
    · cases h
  · cases h⟩
def isS (_ : Sto) (a : PV) : Bool := match a with
  | .str _ => true
  | _ => false
theorem chk_str {X : Cx} : Chk X "str" isS := ⟨fun g S H a x hS r h => by
  unfold isS at h
  split at h
  · cases (show x = V.str _ from r); rfl
  · cases h⟩
section
variable {X : Cx} {o e : Expr} {es : List Expr} {to : Sx} {tr : Sa} {name : Str} {apos cpos : Pos} {T id : String} {chk : Sto → PV → Bool} {f : VM}
theorem se_mt (pa : PlainAttrs T) (slot : Slot T name id) (hty : typeOf (.builtin id) = pure (.type "method_descriptor")) (hm : MtR X id (rVM X f)) (ck : Chk X T chk) (ho : PE X o (rdE X to)) (ha : PA X (e :: es) (rdA X tr))
    (hbase : attributeBase o name X.env (eval o X.env) = eval o X.env := by rfl)
    (hfew : ((backTo cpos (starEach (e :: es) X.env)).all (fun x => !x.1) && (backToKw cpos (keywordEach [] X.env)).all (fun x => x.1.isSome)
      && decide ((e :: es).length + ([] : List Keyword).length + (if ([] : List Keyword).isEmpty then 0 else 1) < 30)) = true := by rfl)
    (hline : (apos.endLine == cpos.line) = true := by rfl) (hs : starEach (e :: es) X.env = (false, eval e X.env) :: starEach es X.env := by rfl) (hplain : (backTo cpos (starEach es X.env)).any (·.1) = false := by rfl) :
    PE X (.Call (.Attribute o name apos) (e :: es) [] cpos) (rdE X (sxMt chk f to tr)) := (pe_bm pa slot hty hm ho ha hbase hfew hline hs hplain).imp fun σ H Q ⟨g, sp, S, hS, hE, p⟩ => by
  refine (rdE.fst hS hE p).mono fun x H1 ⟨a, g1, S1, l1, q1, e1, r1, p1⟩ => ?_
  split at p1
  · rename_i hc
    refine ⟨ck.ok g1 S1 H1 a x q1 r1 hc, (rdA.fst q1 e1 p1).mono fun xs H2 ⟨as, g2, S2, l2, q2, e2, r2, p2⟩ => ?_⟩
    exact ⟨g2, S2, a, as, q2, RepV.mono l2 _ _ r1, r2, Post.of p2⟩
  · exact p1.elim
theorem se_mt0 (pa : PlainAttrs T) (slot : Slot T name id) (hty : typeOf (.builtin id) = pure (.type "method_descriptor")) (hm : MtR X id (rVM X f)) (ck : Chk X T chk) (ho : PE X o (rdE X to))
    (hbase : attributeBase o name X.env (eval o X.env) = eval o X.env := by rfl) (hline : (apos.endLine == cpos.line) = true := by rfl) : PE X (.Call (.Attribute o name apos) [] [] cpos) (rdE X (sxMt0 chk f to)) :=
  (pe_bm0 pa slot hty hm ho hbase hline).imp fun σ H Q ⟨g, sp, S, hS, hE, p⟩ => by
  refine (rdE.fst hS hE p).mono fun x H1 ⟨a, g1, S1, l1, q1, e1, r1, p1⟩ => ?_
  split at p1
  · rename_i hc
    exact ⟨ck.ok g1 S1 H1 a x q1 r1 hc, g1, S1, a, [], q1, r1, .nil, Post.of p1⟩
  · exact p1.elim
end
def vAppend : VM := fun a as S => match a, as with
  | .ref n, [v] => match S[n]? with
    | some (.lst xs) => if xs.length < sizeLine then some (.non, S.set n (.lst (xs ++ [v]))) else none
    | _ => none
  | _, _ => none
def vExtend : VM := fun a as S => match a, as with
  | .ref n, [v] => match S[n]?, listOf S v with
    | some (.lst xs), some ys => if xs.length + ys.length ≤ sizeLine then some (.non, S.set n (.lst (xs ++ ys))) else none
    | _, _ => none
  | _, _ => none
section
variable {X : Cx}
theorem mt_append' : MtR X "list.append" (rVM X vAppend) := by
  intro pins s σ H x xs v us Q I rx rs ⟨g, S, a, as, hS, r1, r2, p⟩
  unfold vAppend at p
  split at p
  · rename_i n w
    obtain ⟨y, rfl, ry⟩ := r2.one
    split at p
    · rename_i ys h2
      split at p
      · rename_i hl
        obtain ⟨q, ex, em⟩ := r1
        obtain ⟨vs, q1, q2⟩ := hS.ob n _ q h2 em
        refine mt_append pins s σ H x _ v us Q I rx rs ⟨q, vs, y, ex, rfl, q1, by rw [← q2.length]; exact hl, p _ _ g (.refl _) (hS.put h2 (by intro z; cases z) em ⟨vs ++ [y], upd_same, q2.append (.cons ry .nil)⟩) rfl⟩
      · exact p.elim
    · exact p.elim
  · exact p.elim
theorem mt_extendL : MtR X "list.extend" (fun x vs H Q => ∃ l b xs zs, x = .ref l ∧ vs = [.ref b] ∧ H l = some (.lst xs) ∧ LsQ X.K H b zs ∧ xs.length + zs.length ≤ sizeLine ∧ Q .non (upd H l (.lst (xs ++ zs)))) := by
  intro pins s σ H x vs v us Q I rx rv h
  obtain ⟨l, b, xs, zs, rfl, rfl, hH, hB, hz, q⟩ := h
  cases rx
  obtain ⟨u, rfl, ru⟩ := rv.one
  cases ru
  obtain ⟨z, its, n, r, hl, e⟩ := I.lstM hH
  obtain ⟨its2, n2, z2, r2, e2⟩ := hB.obj I
  have hl2 := r2.length
  have hsz : its.toArray.size + its2.toArray.size ≤ sizeLine := by rw [List.size_toArray, List.size_toArray]; omega
  have hlong : ¬ (!its.toArray.isEmpty && Builtin.List.listTooLong (its.toArray.size + its2.toArray.size)) = true := by
    rw [notLongL hsz, Bool.and_false]
    exact Bool.false_ne_true
  refine call_meets F.slot_list_extend ⟨_, e, rfl⟩ F.entry_list_extend (F.args_list_extend_2 _ _)
    (AutoSeq1.list_extend_list_list_0 l its.toArray n b its2.toArray n2 hlong (by rw [List.size_toArray]; omega) (by omega)) ⟨e, e2, ?_⟩
  refine ⟨.non, _, I.lset (its' := its ++ its2) hH e (by simp) (r.append r2) ?_, rfl, q⟩
  rw [List.length_append]
  omega
theorem mt_extend' : MtR X "list.extend" (rVM X vExtend) := by
  intro pins s σ H x xs v us Q I rx rs ⟨g, S, a, as, hS, r1, r2, p⟩
  unfold vExtend at p
  split at p
  · rename_i n w
    obtain ⟨y, rfl, ry⟩ := r2.one
    split at p
    · rename_i ys zs h2 h3
      split at p
      · rename_i hl
        obtain ⟨q, ex, em⟩ := r1
        obtain ⟨vs, q1, q2⟩ := hS.ob n _ q h2 em
        obtain ⟨b, ws, e3, q3, q4⟩ := hS.list ry h3
        subst e3
        refine mt_extendL pins s σ H x _ v us Q I rx rs ⟨q, b, vs, ws, ex, rfl, q1, q3, by rw [← q2.length, ← q4.length]; exact hl, p _ _ g (.refl _) (hS.put h2 (by intro z; cases z) em ⟨vs ++ ws, upd_same, q2.append q4⟩) rfl⟩
      · exact p.elim
    · exact p.elim
  · exact p.elim
end

/-! ### dicts with text and int keys -/
def vDItem : V2 := fun a b S => match a with
  | .ref n => match S[n]? with
    | some (.dct kvs) => (keyP b).bind fun k => (valP kvs k).map fun v => (v, S)
    | _ => none
  | _ => none
def saPairs : List (Sx × Sx) → Sl → Sto → Out (List (PV × PV))
  | [], _, S => .ok [] S
  | (tk, tv) :: r, sp, S => (tk sp S).bind fun k S1 => (tv sp S1).bind fun v S2 => (saPairs r sp S2).bind fun ps S3 => .ok ((k, v) :: ps) S3
def keysP : List (PV × PV) → Option (List (Key × PV))
  | [] => some []
  | (a, v) :: r => match keyP a, keysP r with
    | some k, some ks => some ((k, v) :: ks)
    | _, _ => none
def mergeP (kvs more : List (Key × PV)) : List (Key × PV) := more.foldl (fun acc kv => putP acc kv.1 kv.2) kvs
def sxDisp (ts : List (Sx × Sx)) : Sx := fun sp S => (saPairs ts sp S).pure fun ps S1 => match keysP ps with
  | some kvs => if kvs.length ≤ 15 then .ok (.ref S1.length) (S1 ++ [.dct (mergeP [] kvs)]) else .stuck
  | none => .stuck
section
variable {X : Cx} {o i : Expr} {to ti : Sx} {pos : Pos}
theorem se_dget (hu : X.A.units + 1 < cLine) (ho : PE X o (rdE X to)) (hi : PE X i (rdE X ti)) (hs : NoSl i := by exact fun _ _ => rfl) : PE X (.Subscript o i pos) (rdE X (sx2 vDItem to ti)) := (pe_dget hu ho hi hs).imp fun σ H Q h => by
  refine (rd2 h).mono fun x H1 k => rdE.mono k fun y H2 ⟨g, S, a, b, hS, r1, r2, p⟩ => ?_
  unfold vDItem at p
  split at p
  · split at p
    · rename_i n kvs h2
      cases hk : keyP b with
      | none => rw [hk] at p; exact p.elim
      | some k =>
        rw [hk] at p
        simp only [Option.bind] at p
        cases hv : valP kvs k with
        | none => rw [hv] at p; exact p.elim
        | some v =>
          rw [hv] at p
          obtain ⟨q, ws, e, em, q1, q2⟩ := hS.dict r1 h2
          subst e
          obtain ⟨w, h3, r3⟩ := q2.val hv
          have ey := keyP_rep r2 hk
          subst ey
          exact ⟨q, w, rfl, by rw [← h3]; exact DGet.k q1, p.now hS r3⟩
    · exact p.elim
  · exact p.elim
abbrev RepPs (K : PySem.W.Frag) (g : Gh) : List (PV × PV) → List (V × V) → Prop := Paired fun p q => RepV K g p.1 q.1 ∧ RepV K g p.2 q.2
theorem RepPs.mono {K : PySem.W.Frag} {g g' : Gh} (l : g.le g') {xs : List (PV × PV)} {ws : List (V × V)} (h : RepPs K g xs ws) : RepPs K g' xs ws := Paired.mapP h fun _ _ q => ⟨RepV.mono l _ _ q.1, RepV.mono l _ _ q.2⟩
theorem rdPairs : ∀ (ts : List (Sx × Sx)) {σ : L2.St} {H : Hp} {Q : List (V × V) → Hp → Prop} {g : Gh} {sp : Sl} {S : Sto}, RepS X.K X.mg g S H → RepE X.K g sp σ → Post X g (RepPs X.K) (ExcT X g sp) (saPairs ts sp S) Q → tPairs (ts.map fun t => (rdE X t.1, rdE X t.2)) σ H Q
  | [], σ, H, Q, g, sp, S, hS, hE, p => p [] H g (.refl _) hS .nil
  | (tk, tv) :: ts, σ, H, Q, g, sp, S, hS, hE, p => by
    refine (rdE.fst hS hE (show Post X g (RepPs X.K) (ExcT X g sp) ((tk sp S).bind _) Q from p)).mono fun x H1 ⟨a, g1, S1, l1, q1, e1, r1, p1⟩ => ?_
    refine (rdE.fst q1 e1 p1).mono fun y H2 ⟨b, g2, S2, l2, q2, e2, r2, p2⟩ => ?_
    refine rdPairs ts q2 e2 ((Post.seq (R := RepPs X.K) p2).imp (fun _ _ x => x) fun ps H3 ⟨c, g3, S3, l3, q3, r3, p3⟩ => ?_)
    exact p3 _ H3 g3 (.refl _) q3 (.cons ⟨RepV.mono (l2.trans l3) _ _ r1, RepV.mono l3 _ _ r2⟩ r3)
theorem keysP_rep {K : PySem.W.Frag} {g : Gh} : ∀ {ps : List (PV × PV)} {ws : List (V × V)} {kvs : List (Key × PV)}, RepPs K g ps ws → keysP ps = some kvs → ∃ rs : List (Key × V), ws = rs.map (fun kv => (kV kv.1, kv.2)) ∧ RepKV K g kvs rs
  | [], _, _, .nil, h => by cases h; exact ⟨[], rfl, .nil⟩
  | (a, v) :: ps, _, kvs, .cons (b := b) hh t, h => by
    have h' : (match keyP a, keysP ps with
      | some k, some ks => some ((k, v) :: ks)
      | _, _ => none) = some kvs := h
    cases q1 : keyP a with
    | none => rw [q1] at h'; cases h'
    | some k =>
      cases q2 : keysP ps with
      | none => rw [q1, q2] at h'; cases h'
      | some ks =>
        rw [q1, q2] at h'; cases h'
        obtain ⟨rs, e, r⟩ := keysP_rep t q2
        have e1 := keyP_rep hh.1 q1
        refine ⟨(k, b.2) :: rs, ?_, .cons ⟨rfl, hh.2⟩ r⟩
        rw [List.map_cons, ← e, ← e1]
theorem merge_rep {K : PySem.W.Frag} {g : Gh} : ∀ {more : List (Key × PV)} {rs : List (Key × V)} {kvs : List (Key × PV)} {ws : List (Key × V)}, RepKV K g more rs → RepKV K g kvs ws → RepKV K g (mergeP kvs more) (mergeK ws rs) := by
  intro more rs kvs ws r
  induction r generalizing kvs ws with
  | nil => intro q; exact q
  | @cons p q ps qs h t ih =>
    intro r0
    have e : RepKV K g (putP kvs p.1 p.2) (putK ws q.1 q.2) := by
      have := r0.put p.1 h.2
      rw [← h.1]; exact this
    exact ih e
theorem se_disp {keys : List (Option Expr)} {values : List Expr} {ts : List (Sx × Sx)} (h : PPs X pos keys values (ts.map fun t => (rdE X t.1, rdE X t.2))) (hall : keys.all (·.isSome) = true := by rfl) (hl : keys.length = values.length := by rfl) (h0 : keys ≠ [] := by exact fun z => by cases z)
    (h15 : keys.length ≤ 15 := by decide) : PE X (.Dict keys values pos) (rdE X (sxDisp ts)) := (pe_disp h hall hl h0 h15).imp fun σ H Q ⟨g, sp, S, hS, hE, p⟩ => by
  intro D hD
  have D0 : g.rs D = none := by
    cases e : g.rs D with
    | none => rfl
    | some u => rw [(hS.rs D u e).1] at hD; cases hD
  have h1 := hS.reserve (o := .dK []) hD
  have lv : g.lv { g with rs := upd g.rs D (.dK []) } := ⟨fun _ _ e => e, fun _ _ e => e⟩
  refine rdPairs ts h1 (hE.monoV lv) ?_
  unfold sxDisp at p
  cases hps : saPairs ts sp S with
  | stuck => rw [hps] at p; exact p.elim
  | exc x S1 => rw [hps] at p; exact p.elim
  | ok ps S1 =>
    rw [hps] at p
    intro ws H2 g2 l2 q2 r2
    have gD : g2.rs D = some (.dK []) := by rw [l2.rs]; exact upd_same
    refine ⟨(q2.rs D _ gD).1, ?_⟩
    have p : Post X g (RepV X.K) (ExcT X g sp) (match keysP ps with
      | some kvs => if kvs.length ≤ 15 then Out.ok (PV.ref S1.length) (S1 ++ [SO.dct (mergeP [] kvs)]) else .stuck
      | none => .stuck) Q := p
    cases hk : keysP ps with
    | none => rw [hk] at p; exact p.elim
    | some kvs =>
      rw [hk] at p
      simp only at p
      obtain ⟨rs, e, r⟩ := keysP_rep r2 hk
      split at p
      · rename_i h15'
        refine ⟨rs, e, by rw [← r.length]; exact h15', ?_⟩
        have q3 := q2.rekeep (o' := .dK (mergeK [] rs)) gD rfl
        have lv3 : g2.lv { g2 with rs := upd g2.rs D (.dK (mergeK [] rs)) } := ⟨fun _ _ e => e, fun _ _ e => e⟩
        have gD3 : ({ g2 with rs := upd g2.rs D (.dK (mergeK [] rs)) } : Gh).rs D = some (.dK (mergeK [] rs)) := upd_same
        obtain ⟨q4, l4⟩ := q3.letIn (so := .dct (mergeP [] kvs)) (r0 := g.rs) gD3 (fun a u e => by
          have ha : a ≠ D := fun z => by rw [z, D0] at e; cases e
          refine ⟨ha, ?_⟩
          show upd g2.rs D _ a = _
          rw [upd_ne ha, l2.rs]
          show upd g.rs D _ a = _
          rw [upd_ne ha]; exact e) ⟨mergeK [] rs, upd_same, (merge_rep (r.monoV lv3) .nil)⟩
        refine p (.ref D) _ _ ⟨fun a o e => (lv.trans (l2.lv.trans (lv3.trans l4))).fz a o e, fun j a e => (lv.trans (l2.lv.trans (lv3.trans l4))).m j a e, rfl, ?_⟩ q4 ⟨D, rfl, ?_⟩
        · exact l2.tb
        · show (g2.m ++ [D])[S1.length]? = some D
          rw [← q2.len]; simp
      · exact p.elim
end
end MX

end

section
/-! repr; defs and their calls; the end of a law; the head's facts. -/
namespace MX
open PySem PySem.Spec PyProof.Rows L2

/-! ### repr -/
def vRepr : VN := fun as S => match as with
  | [a] => match dOf S a with
    | some d => if d.showable = true ∧ d.hasDict = false ∧ d.depth ≤ 64 ∧ d.shown.length ≤ sizeLine then some (.str d.shown, S) else none
    | none => none
  | _ => none
theorem repr_go {prog : Program} {w : World} {A : Around} {E : Value → Shared → Prop} {s : Shared} {v : Value} {d : PyData} {as : List Addr} {Q : Value → Shared → Prop} (r : Reads s.heap v d as) (hs : d.showable = true) (hnd : d.hasDict = false) (hg : A.guards = some []) (hu : A.units + (d.depth + 1) < cLine)
    (hsz : d.shown.length ≤ sizeLine) (hQ : ∀ h' u tk, (∀ b o, s.heap.get? b = some o → h'.get? b = some o) → Q (.str d.shown u) { s with heap := h', toks := tk }) : wpAny (model prog w) A (call (.builtin "repr") [v]) Q E s := by
  cases r with
  | none => simp only [PyData.shown] at hQ; exact PySem.P.repr_of_none (hQ s.heap _ _ fun _ _ e => e)
  | bool b => simp only [PyData.shown] at hQ; exact PySem.P.repr_of_bool (hQ s.heap _ _ fun _ _ e => e)
  | int i t => simp only [PyData.shown] at hQ; exact PySem.P.repr_of_int (by simpa [PyData.showable] using hs) (hQ s.heap _ _ fun _ _ e => e)
  | str x t => simp only [PyData.shown] at hQ hsz; exact PySem.P.repr_of_str (hQ s.heap _ _ fun _ _ e => e) hsz
  | list h1 h2 h3 h4 => exact repr_of_reads' (.list h1 h2 h3 h4) hs (PyData.noDict_hsm hnd) hg hu (fun _ _ e => e) hQ hsz
  | tuple h1 h2 h3 h4 => exact repr_of_reads' (.tuple h1 h2 h3 h4) hs (PyData.noDict_hsm hnd) hg hu (fun _ _ e => e) hQ hsz
  | dict _ _ _ _ _ => simp [PyData.hasDict] at hnd
section
variable {X : Cx}
theorem cl_repr (hg : X.A.guards = some []) (hu : X.A.units + 65 < cLine) : CallN X (.builtin "repr") vRepr := by
  intro pins s σ H xs us Q I r ⟨g, S, as, hS, rr, p⟩
  unfold vRepr at p
  split at p
  · rename_i a
    obtain ⟨x, rfl, r1⟩ := rr.one
    obtain ⟨u, rfl, ru⟩ := vals1 r
    split at p
    · rename_i d hd
      split at p
      · rename_i hc
        obtain ⟨h1, h2, h3, h4⟩ := hc
        obtain ⟨bs, q⟩ := Dp.reads I d x u (hS.data r1 hd) ru
        exact repr_go q h1 h2 hg (by omega) h4 fun h' u' tk hk => ⟨.str d.shown, H, I.kept hk, ⟨_, rfl⟩, p.now hS rfl⟩
      · exact p.elim
    · exact p.elim
  · exact p.elim
end

/-! ### defs -/
abbrev Fs := List PV → Sto → Out PV
/-- a def's promise: it does what f tells -/
def spOf (K : PySem.W.Frag) (mg : Str → Option Value) (n : Nat) (f : Fs) : Sp := fun vs H Q E => ∃ g S as, RepS K mg g S H ∧ RepVs K g as vs ∧ as.length = n ∧ (match f as S with
  | .ok a S' => ∀ v H' g', g.le g' → RepS K mg g' S' H' → RepV K g' a v → Q v H'
  | .exc x S' => ∀ cls d H' g', g.le g' → RepS K mg g' S' H' → RepX K mg g' x cls d H' → E cls d H'
  | .stuck => False)
structure FnG (P : Program) (w : World) (K : PySem.W.Frag) (mg : Str → Option Value) (base : Heap) (k : Nat) (f : Addr) (fd : FuncData) (ps : List Str) (sem : Fs) : Prop where
  run : ∀ (A : Around) (outer : List Env) (s : Shared) (H : Hp) (args : Args) (us : List Value) (vs : List V) (Q : VK) (E : XK), Room k A → A.guards = some [] → Env0 P w K mg base A outer s H → BindsTo s fd args (ps.zip us) → Vals vs us → spOf K mg ps.length sem vs H Q E →
    codeAny (model P w) A (.call (.ref f) args) (CR (L2.CX P w) outer P w H s Q E) s
theorem FnG.mono {P : Program} {w : World} {K : PySem.W.Frag} {mg : Str → Option Value} {base : Heap} {j k : Nat} {f : Addr} {fd : FuncData} {ps : List Str} {sem : Fs} (F : FnG P w K mg base j f fd ps sem) (h : j ≤ k) :
    FnG P w K mg base k f fd ps sem := ⟨fun A outer s H args us vs Q E hr => F.run A outer s H args us vs Q E (hr.mono h)⟩
/-- o2 is what one may say of a call that does o -/
def Refines (o o2 : Out PV) (K : PySem.W.Frag) (mg : Str → Option Value) (S : Sto) : Prop := match o2 with
  | .stuck => True
  | .ok a2 S2 => ∃ a S1, o = .ok a S1 ∧ ∀ g0 g H v, RepS K mg g0 S H → True → g0.le g → RepS K mg g S1 H → RepV K g a v → ∃ g', g0.le g' ∧ RepS K mg g' S2 H ∧ RepV K g' a2 v
  | .exc x2 S2 => ∃ S1, o = .exc x2 S1 ∧ S1 = S2
/-- another function that tells the same where it tells anything -/
theorem FnG.imp {P : Program} {w : World} {K : PySem.W.Frag} {mg : Str → Option Value} {base : Heap} {k : Nat} {f : Addr} {fd : FuncData} {ps : List Str} {sem sem' : Fs} (F : FnG P w K mg base k f fd ps sem)
    (h : ∀ as S, as.length = ps.length → sem' as S = .stuck ∨ sem as S = sem' as S) : FnG P w K mg base k f fd ps sem' := ⟨fun A outer s H args us vs Q E hr hg he hb hv ⟨g, S, as, h1, h2, h3, h4⟩ => by
  refine F.run A outer s H args us vs Q E hr hg he hb hv ⟨g, S, as, h1, h2, h3, ?_⟩
  rcases h as S h3 with z | z
  · rw [z] at h4; exact h4.elim
  · rw [z]; exact h4⟩
/-! the values hold no thing of the store from n on -/
mutual
def below (n : Nat) : PV → Bool
  | .tup xs => belows n xs
  | .lst xs => belows n xs
  | .ref k => decide (k < n)
  | _ => true
def belows (n : Nat) : List PV → Bool
  | [] => true
  | x :: xs => below n x && belows n xs
end
section
variable {K : PySem.W.Frag} {g g' : Gh} {n : Nat}
theorem lt_take {α : Type} {l : List α} {i n : Nat} {a : α} (h : l[i]? = some a) (hi : i < n) : (l.take n)[i]? = some a := by
  rw [List.getElem?_take_of_lt hi]; exact h
mutual
theorem RepV.cut (hf : ∀ a o, g.fz a = some o → g'.fz a = some o) (hm : ∀ (i : Nat) (a : Addr), i < n → g.m[i]? = some a → g'.m[i]? = some a) : ∀ (x : PV) (v : V), below n x = true → RepV K g x v → RepV K g' x v
  | .non, _, _, h => h
  | .bl _, _, _, h => h
  | .int _, _, _, h => h
  | .str _, _, _, h => h
  | .tup xs, _, b, h => by
    obtain ⟨a, vs, e, h1, h2⟩ := h
    exact ⟨a, vs, e, SqT.mono hf h1, RepVs.cut' hf hm xs vs b h2⟩
  | .lst xs, _, b, h => by
    obtain ⟨a, vs, e, h1, h2⟩ := h
    exact ⟨a, vs, e, LsQ.mono hf h1, RepVs.cut' hf hm xs vs b h2⟩
  | .ref k, _, b, h => by
    obtain ⟨a, e, h1⟩ := h
    exact ⟨a, e, hm _ _ (of_decide_eq_true b) h1⟩
theorem RepVs.cut' (hf : ∀ a o, g.fz a = some o → g'.fz a = some o) (hm : ∀ (i : Nat) (a : Addr), i < n → g.m[i]? = some a → g'.m[i]? = some a) : ∀ (xs : List PV) (vs : List V), belows n xs = true → RepVs K g xs vs → RepVs K g' xs vs
  | [], _, _, h => h
  | x :: xs, _, b, h => by
    obtain ⟨v, r, e, h1, h2⟩ := h
    have b' : (below n x && belows n xs) = true := b
    rw [Bool.and_eq_true] at b'
    exact ⟨v, r, e, RepV.cut hf hm x v b'.1 h1, RepVs.cut' hf hm xs r b'.2 h2⟩
end
end
def belowO (n : Nat) : SO → Bool
  | .lst xs => belows n xs
  | .dct kvs => kvs.all fun kv => below n kv.2
  | .ins _ fs => fs.all fun kv => below n kv.2
  | .dead => true
theorem pairedAll {α β : Type} {F G : α → β → Prop} {p : α → Bool} : ∀ {l₁ : List α} {l₂ : List β}, Paired F l₁ l₂ → l₁.all p = true → (∀ a b, p a = true → F a b → G a b) → Paired G l₁ l₂
  | _, _, .nil, _, _ => .nil
  | _, _, .cons r t, h, f => by
    rw [List.all_cons, Bool.and_eq_true] at h
    exact .cons (f _ _ h.1 r) (pairedAll t h.2 f)
theorem RepO.cut {K : PySem.W.Frag} {mg : Str → Option Value} {g g' : Gh} {H : Hp} {n : Nat} (hf : ∀ a o, g.fz a = some o → g'.fz a = some o) (hm : ∀ (i : Nat) (a : Addr), i < n → g.m[i]? = some a → g'.m[i]? = some a) {so : SO} {a : Addr} (b : belowO n so = true) (h : RepO K mg g H so a) : RepO K mg g' H so a := by
  cases so with
  | lst xs => obtain ⟨vs, e, r⟩ := h; exact ⟨vs, e, RepVs.cut' hf hm _ _ b r⟩
  | dct kvs => obtain ⟨ws, e, r⟩ := h; exact ⟨ws, e, pairedAll r b fun a b p q => ⟨q.1, RepV.cut hf hm _ _ p q.2⟩⟩
  | ins c fs => obtain ⟨C, dx, ws, e0, e, r⟩ := h; exact ⟨C, dx, ws, e0, e, pairedAll r b fun a b p q => ⟨q.1, RepV.cut hf hm _ _ p q.2⟩⟩
  | dead => trivial
/-- the things from n on forgotten, nobody leans on them -/
theorem RepS.forget {K : PySem.W.Frag} {mg : Str → Option Value} {g : Gh} {S : Sto} {H : Hp} (n : Nat) (h : RepS K mg g S H) (b : ∀ so ∈ S.take n, belowO n so = true) : RepS K mg ⟨g.fz, g.m.take n, g.rs, g.tb⟩ (S.take n) H := by
  have hm : ∀ (i : Nat) (a : Addr), i < n → g.m[i]? = some a → (g.m.take n)[i]? = some a := fun i a hi e => lt_take e hi
  have un : ∀ {α : Type} {l : List α} {i : Nat} {a : α}, (l.take n)[i]? = some a → l[i]? = some a ∧ i < n := fun {α l i a} e => by
    have hi : i < n := by
      have := (List.getElem?_eq_some_iff.mp e).1
      rw [List.length_take] at this; omega
    rw [List.getElem?_take_of_lt hi] at e
    exact ⟨e, hi⟩
  refine ⟨h.fz, by rw [List.length_take, List.length_take, h.len], fun i so a e1 e2 => ?_, fun i so a e1 n1 e2 => h.nofz i so a (un e1).1 n1 (un e2).1, fun i j s1 s2 a e1 n1 e2 n2 e3 e4 => h.inj i j s1 s2 a (un e1).1 n1 (un e2).1 n2 (un e3).1 (un e4).1, fun a o e => ?_, h.tb⟩
  · exact (h.ob i so a (un e1).1 (un e2).1).cut (g := g) (g' := ⟨g.fz, g.m.take n, g.rs, g.tb⟩) (n := n) (fun _ _ e => e) hm (b so (List.mem_of_getElem? e1))
  · obtain ⟨q1, q2, q3⟩ := h.rs a o e
    exact ⟨q1, q2, fun i so e1 n1 e2 => q3 i so (un e1).1 n1 (un e2).1⟩
/-- what is made in the call and not handed back is forgotten -/
theorem FnG.drop {P : Program} {w : World} {K : PySem.W.Frag} {mg : Str → Option Value} {base : Heap} {k : Nat} {f : Addr} {fd : FuncData} {ps : List Str} {sem sem' : Fs} (F : FnG P w K mg base k f fd ps sem)
    (h : ∀ as S, as.length = ps.length → sem' as S = .stuck ∨ (∃ a S2 G, sem' as S = .ok a S2 ∧ sem as S = .ok a (S2 ++ G) ∧ S2.length = S.length ∧ below S.length a = true ∧ ∀ so ∈ S2, belowO S.length so = true) ∨
      ∃ x S2 G, sem' as S = .exc x S2 ∧ sem as S = .exc x (S2 ++ G) ∧ S2.length = S.length ∧ (x.fs.all fun q => below S.length q.2) = true ∧ ∀ so ∈ S2, belowO S.length so = true) : FnG P w K mg base k f fd ps sem' := ⟨fun A outer s H args us vs Q E hr hg he hb hv ⟨g, S, as, h1, h2, h3, h4⟩ => by
  refine F.run A outer s H args us vs Q E hr hg he hb hv ⟨g, S, as, h1, h2, h3, ?_⟩
  have cut : ∀ {g' : Gh} {S2 G : Sto} {H' : Hp}, g.le g' → RepS K mg g' (S2 ++ G) H' → S2.length = S.length → (∀ so ∈ S2, belowO S.length so = true) → RepS K mg ⟨g'.fz, g'.m.take S.length, g'.rs, g'.tb⟩ S2 H' ∧ g.le ⟨g'.fz, g'.m.take S.length, g'.rs, g'.tb⟩ := fun {g' S2 G H'} l q e b => by
    have t : (S2 ++ G).take S.length = S2 := by rw [← e]; simp
    refine ⟨by have := q.forget S.length (by rw [t]; exact b); rw [t] at this; exact this, ⟨l.fz, fun i a e => lt_take (l.m i a e) ?_, l.rs, l.tb⟩⟩
    have := (List.getElem?_eq_some_iff.mp e).1
    rw [h1.len] at this; exact this
  rcases h as S h3 with z | ⟨a, S2, G, z1, z2, z3, z4, z5⟩ | ⟨x, S2, G, z1, z2, z3, z4, z5⟩
  · rw [z] at h4; exact h4.elim
  · rw [z1] at h4
    rw [z2]
    intro v H' g' l q r
    obtain ⟨c1, c2⟩ := cut l q z3 z5
    exact h4 v H' _ c2 c1 (RepV.cut (g := g') (g' := ⟨g'.fz, g'.m.take S.length, g'.rs, g'.tb⟩) (n := S.length) (fun _ _ e => e) (fun i a hi e => lt_take e hi) _ _ z4 r)
  · rw [z1] at h4
    rw [z2]
    intro cls d H' g' l q r
    obtain ⟨c1, c2⟩ := cut l q z3 z5
    obtain ⟨r1, dx, ws, r2, r3, r4⟩ := r
    exact h4 cls d H' _ c2 c1 ⟨r1, dx, ws, r2, r3, pairedAll r4 z4 fun a b p q => ⟨q.1, RepV.cut (g := g') (g' := ⟨g'.fz, g'.m.take S.length, g'.rs, g'.tb⟩) (n := S.length) (fun _ _ e => e) (fun i a hi e => lt_take e hi) _ _ p q.2⟩⟩⟩
/-- a list of the call's own that is handed back: from then on it stays as it is -/
theorem FnG.freeze {P : Program} {w : World} {K : PySem.W.Frag} {mg : Str → Option Value} {base : Heap} {k : Nat} {f : Addr} {fd : FuncData} {ps : List Str} {sem sem' : Fs} (F : FnG P w K mg base k f fd ps sem)
    (h : ∀ as S, as.length = ps.length → sem' as S = .stuck ∨ (∃ n xs S2 G, sem' as S = .ok (.lst xs) S2 ∧ sem as S = .ok (.ref n) (S2 ++ G) ∧ S.length ≤ n ∧ (S2 ++ G)[n]? = some (.lst xs) ∧ S2.length = S.length ∧ belows S.length xs = true ∧ ∀ so ∈ S2, belowO S.length so = true) ∨
      ∃ x S2 G, sem' as S = .exc x S2 ∧ sem as S = .exc x (S2 ++ G) ∧ S2.length = S.length ∧ (x.fs.all fun q => below S.length q.2) = true ∧ ∀ so ∈ S2, belowO S.length so = true) : FnG P w K mg base k f fd ps sem' := ⟨fun A outer s H args us vs Q E hr hg he hb hv ⟨g, S, as, h1, h2, h3, h4⟩ => by
  refine F.run A outer s H args us vs Q E hr hg he hb hv ⟨g, S, as, h1, h2, h3, ?_⟩
  have cut : ∀ {g' : Gh} {S2 G : Sto} {H' : Hp}, g.le g' → RepS K mg g' (S2 ++ G) H' → S2.length = S.length → (∀ so ∈ S2, belowO S.length so = true) → RepS K mg ⟨g'.fz, g'.m.take S.length, g'.rs, g'.tb⟩ S2 H' ∧ g.le ⟨g'.fz, g'.m.take S.length, g'.rs, g'.tb⟩ := fun {g' S2 G H'} l q e b => by
    have t : (S2 ++ G).take S.length = S2 := by rw [← e]; simp
    refine ⟨by have := q.forget S.length (by rw [t]; exact b); rw [t] at this; exact this, ⟨l.fz, fun i a e => lt_take (l.m i a e) ?_, l.rs, l.tb⟩⟩
    have := (List.getElem?_eq_some_iff.mp e).1
    rw [h1.len] at this; exact this
  rcases h as S h3 with z | ⟨n, xs, S2, G, z1, z2, z0, z6, z3, z4, z5⟩ | ⟨x, S2, G, z1, z2, z3, z4, z5⟩
  · rw [z] at h4; exact h4.elim
  · rw [z1] at h4
    rw [z2]
    intro v H' g' l q r
    obtain ⟨c1, c2⟩ := cut l q z3 z5
    obtain ⟨p, ev, em⟩ := r
    obtain ⟨ws, e1, r1⟩ := q.ob n _ p z6 em
    have pf := q.nofz n _ p z6 (by intro z; cases z) em
    -- p is frozen
    have lf : ∀ a o, g'.fz a = some o → (upd g'.fz p (.lst ws)) a = some o := fun a o e => by
      rw [upd_ne (fun z => by subst z; rw [pf] at e; cases e)]; exact e
    have hne : ∀ (i : Nat) (so : SO) (a : Addr), S2[i]? = some so → so ≠ .dead → (g'.m.take S.length)[i]? = some a → a ≠ p := fun i so a f1 f2 f3 f4 => by
      subst f4
      have hi : i < S2.length := (List.getElem?_eq_some_iff.mp f1).1
      have f5 : (S2 ++ G)[i]? = some so := by rw [List.getElem?_append_left hi]; exact f1
      have hi2 : i < S.length := by omega
      rw [List.getElem?_take_of_lt hi2] at f3
      have := q.inj i n so _ a f5 f2 z6 (by intro z; cases z) f3 em
      omega
    have rsne : ∀ a o, g'.rs a = some o → a ≠ p := fun a o f1 f2 => by
      subst f2
      exact (q.rs a o f1).2.2 n _ z6 (by intro z; cases z) em
    refine h4 v H' ⟨upd g'.fz p (.lst ws), g'.m.take S.length, g'.rs, g'.tb⟩ ⟨fun a o e => lf a o (c2.fz a o e), c2.m, c2.rs, c2.tb⟩ ⟨fun a o e => ?_, c1.len, fun i so a f1 f2 => ?_, fun i so a f1 n1 f2 => ?_, c1.inj, fun a o e => ?_, c1.tb⟩ ⟨p, ws, ev, .inl (.inl upd_same), ?_⟩
    · by_cases ha : a = p
      · subst ha
        have e' : upd g'.fz a (.lst ws) a = some o := e
        rw [upd_same] at e'; cases e'; exact e1
      · have e' : upd g'.fz p (.lst ws) a = some o := e
        rw [upd_ne ha] at e'
        exact q.fz a o e'
    · exact (c1.ob i so a f1 f2).monoV (g := ⟨g'.fz, g'.m.take S.length, g'.rs, g'.tb⟩) (g' := ⟨upd g'.fz p (.lst ws), g'.m.take S.length, g'.rs, g'.tb⟩) ⟨lf, fun _ _ e => e⟩
    · show upd g'.fz p (.lst ws) a = none
      rw [upd_ne (hne i so a f1 n1 f2)]
      exact c1.nofz i so a f1 n1 f2
    · obtain ⟨k1, k2, k3⟩ := c1.rs a o e
      refine ⟨k1, ?_, k3⟩
      show upd g'.fz p (.lst ws) a = none
      rw [upd_ne (rsne a o e)]; exact k2
    · exact RepVs.cut' (g := g') (g' := ⟨upd g'.fz p (.lst ws), g'.m.take S.length, g'.rs, g'.tb⟩) (n := S.length) lf (fun i a hi e => lt_take e hi) _ _ z4 r1
  · rw [z1] at h4
    rw [z2]
    intro cls d H' g' l q r
    obtain ⟨c1, c2⟩ := cut l q z3 z5
    obtain ⟨r1, dx, ws, r2, r3, r4⟩ := r
    exact h4 cls d H' _ c2 c1 ⟨r1, dx, ws, r2, r3, pairedAll r4 z4 fun a b p q => ⟨q.1, RepV.cut (g := g') (g' := ⟨g'.fz, g'.m.take S.length, g'.rs, g'.tb⟩) (n := S.length) (fun _ _ e => e) (fun i a hi e => lt_take e hi) _ _ p q.2⟩⟩⟩

/-! ### a call -/
section
variable {X : Cx} {k : Nat} {f : Addr} {fd : FuncData} {ps : List Str} {sem : Fs} {x : Str} {p pos : Pos} {e : Expr} {es : List Expr} {tr : Sa}
theorem run_g {pins : List (Addr × Obj)} {σ : L2.St} {H : Hp} {s : Shared} {Q : VK} {us : List Value} {vs : List V} {ds : List Value} {dvs : List V} {dps : List PV} {g : Gh} {S : Sto} {sp : Sl} {as : List PV} (F : FnG X.prog X.w X.K X.mg X.base k f fd ps sem) (hr : Room k X.A) (hgd : X.A.guards = some []) (hb : Binds X.K fd ps ds) (hd : Vals dvs ds) (hdp : ∀ g, RepVs X.K g dps dvs)
    (I : Inv X pins σ H s) (r : Vals vs us) (hS : RepS X.K X.mg g S H) (hE : RepE X.K g sp σ) (ra : RepVs X.K g as vs) (hl : (as ++ dps).length = ps.length) (h : Post X g (RepV X.K) (ExcT X g sp) (sem (as ++ dps) S) Q) :
    wpAny (model X.prog X.w) X.A (call (.ref f) us) (EP X pins σ Q) X.xe s := by
  have r2 : Vals (vs ++ dvs) (us ++ ds) := r.append hd
  have ra2 : RepVs X.K g (as ++ dps) (vs ++ dvs) := ra.append (hdp g)
  have hl2 : (us ++ ds).length = ps.length := by rw [← r2.length, ← ra2.length]; exact hl
  refine wpAny_call (codeAny_mono (F.run X.A X.stack s H ⟨us, []⟩ (us ++ ds) (vs ++ dvs) Q (fun cls d H' => match sem (as ++ dps) S with
    | .exc x S' => ∃ g', g.le g' ∧ RepS X.K X.mg g' S' H' ∧ RepX X.K X.mg g' x cls d H'
    | _ => False) hr hgd I.env0 (hb s us I.kIn hl2) r2 ⟨g, S, as ++ dps, hS, ra2, hl, ?_⟩) fun r s' hq => ?_)
  · cases ho : sem (as ++ dps) S with
    | ok a S' => rw [ho] at h; exact h
    | exc x S' => exact fun cls d H' g' l q r => ⟨g', l, q, r⟩
    | stuck => rw [ho] at h; exact h
  · cases r with
    | error e =>
      have hq' : L2.CX X.prog X.w X.stack H s _ e s' := hq
      cases ho : sem (as ++ dps) S with
      | ok a S' => rw [ho] at hq'; exact ((passes_call (X := X) (W := fun _ _ _ _ => False) (E := fun _ _ _ => False) takes0 (fun _ _ _ _ z => z)) pins σ H s e s' I hq')
      | stuck => rw [ho] at h; exact h.elim
      | exc x S' =>
        rw [ho] at h hq'
        exact h e s' (XE.of_call I (fun cls d H' ⟨g', l, q, r⟩ => ⟨g', l, q, hE.mono l, r⟩) hq')
    | ok fl =>
      cases fl with
      | ret u => exact I.after hq
      | next => exact False.elim hq
      | brk => exact False.elim hq
      | cont => exact False.elim hq
def sxCall (n : Nat) (sem : Fs) (tr : Sa) : Sx := fun sp S => (tr sp S).bind fun as S1 => if as.length = n then sem as S1 else .stuck
theorem se_call (F : FnG X.prog X.w X.K X.mg X.base k f fd ps sem) (hr : Room k X.A) (hgd : X.A.guards = some []) (hg : Gl X x) (hm : X.mg x = some (.ref f)) (hk : PySem.W.keepIn X.K (.ref f) = true) (hb : Binds X.K fd ps [])
    (ha : PA X (e :: es) (rdA X tr)) (hdb : (x == ("__debug__" : Str)) = false := by decide) (he : starEach (e :: es) X.env = (false, eval e X.env) :: starEach es X.env := by rfl) (hpl : (backTo pos (starEach es X.env)).any (·.1) = false := by rfl) :
    PE X (.Call (.Name x p) (e :: es) [] pos) (rdE X (sxCall ps.length sem tr)) := by
  refine ⟨fun pins s σ H Q I ⟨g, sp, S, hS, hE, h⟩ => ?_⟩
  refine wpAny_Call_Name_kw (ld_glob I hg hm ?_ hdb)
  refine PySem.W.callWith_K (h₀ := X.base) I.ok.mod.kin hk (thn (ha.run pos pins s σ H _ I (rdA.fst hS hE h)) fun us s1 ⟨vs, H1, I1, r, as, g1, S1, l1, q1, e1, r1, p1⟩ => ⟨I1.kIn, ?_⟩) he hpl
  split at p1
  · rename_i hl
    exact run_g (ds := []) (dvs := []) (dps := []) F hr hgd hb .nil (fun _ => .nil) I1 r q1 e1 r1 (by rw [List.append_nil]; exact hl) (by rw [List.append_nil]; exact p1)
  · exact p1.elim
theorem se_call0 (F : FnG X.prog X.w X.K X.mg X.base k f fd ps sem) (hr : Room k X.A) (hgd : X.A.guards = some []) (hg : Gl X x) (hm : X.mg x = some (.ref f)) (hk : PySem.W.keepIn X.K (.ref f) = true) (hb : Binds X.K fd ps [])
    (hdb : (x == ("__debug__" : Str)) = false := by decide) : PE X (.Call (.Name x p) [] [] pos) (rdE X (sxCall ps.length sem saNil)) := by
  refine ⟨fun pins s σ H Q I ⟨g, sp, S, hS, hE, h⟩ => ?_⟩
  refine wpAny_Call_Name_kw (ld_glob I hg hm ?_ hdb)
  have h' : Post X g (RepV X.K) (ExcT X g sp) (if ([] : List PV).length = ps.length then sem [] S else .stuck) Q := h
  split at h'
  · rename_i hl
    exact PySem.W.callWith_K0 I.kIn hk (run_g (us := []) (vs := []) (as := []) (ds := []) (dvs := []) (dps := []) F hr hgd hb .nil (fun _ => .nil) I .nil hS hE .nil hl h')
  · exact h'.elim
end

/-! ### a def's body -/
def startP (n : Nat) (as : List PV) : Sl := as.map some ++ List.replicate (n - as.length) none
def bodyF (n : Nat) (t : Ss) : Fs := fun as S => match t (startP n as) S with
  | .rt v S' => .ok v S'
  | .nx _ S' => .ok .non S'
  | .exc x _ S' => .exc x S'
  | _ => .stuck
theorem repE_start {K : PySem.W.Frag} {g : Gh} {as : List PV} {vs : List V} (r : RepVs K g as vs) (N : List Str) : RepE K g (startP N.length as) (L2.start N vs) := by
  have hl := r.length
  refine ⟨by simp [startP, L2.start, hl], fun i x e => ?_⟩
  unfold startP at e
  by_cases hi : i < as.length
  · rw [List.getElem?_append_left (by simpa using hi), List.getElem?_map] at e
    cases q : as[i]? with
    | none => rw [q] at e; cases e
    | some y =>
      rw [q] at e; cases e
      obtain ⟨v, h1, h2⟩ := r.get q
      refine ⟨v, ?_, h2⟩
      unfold L2.start
      rw [List.getElem?_append_left (by simpa [← hl] using hi), List.getElem?_map, h1]
      rfl
  · rw [List.getElem?_append_right (by simpa using hi), List.getElem?_replicate] at e
    split at e <;> cases e
section
variable {P : Program} {w : World} {K : PySem.W.Frag} {mg : Str → Option Value} {base : Heap} {x qual : Str} {params : Arguments} {body : List Stmt} {scope : Scope} {dvs : List V} {kws : List (Str × V)} {f : Addr} {fd : FuncData}
/-- the context of a def's body -/
abbrev CxB (P : Program) (w : World) (K : PySem.W.Frag) (mg : Str → Option Value) (base : Heap) (N : List Str) (qual : Str) (scope : Scope) (f : Addr) (cdv : Value) (A : Around) (outer : List Env) (s : Shared) (H : Hp) (E : XK) : Cx := cxOf (L2.CX P w) P w K mg base N qual scope f cdv A outer s H E
theorem fn_g {N ps : List Str} {k : Nat} {t : Ss} (F : FunD K x qual params body scope dvs kws f fd) (S : FnScope N ps scope)
    (hbody : ∀ (cdv : Value) (A : Around) (outer : List Env) (s : Shared) (H : Hp) (E : XK), Room k (A.deeper (envOfC qual scope s.heap.objs.size f cdv)) → (A.deeper (envOfC qual scope s.heap.objs.size f cdv)).guards = some [] →
      PSs (CxB P w K mg base N qual scope f cdv A outer s H E) body (rdS (CxB P w K mg base N qual scope f cdv A outer s H E) t)) : FnG P w K mg base (k + 1) f fd ps (bodyF N.length t) := by
  obtain ⟨oc, od, dV, kV, doc, pm, an, cdv, ct, osl, rfl, lk, hcd, _, _⟩ := F.ex
  refine ⟨fun A outer s H args us vs Q E hr hgd e0 hb r ⟨g, S0, as, hS, ra, hlen, hsp⟩ => ?_⟩
  have hl : vs.length = ps.length := by rw [← ra.length]; exact hlen
  have KX : K.In s.heap := e0.mod.kin.keeps fun b o e => (e0.bs b o e).1
  have lim : s.heap.NoLimit := e0.mod.nolimit.keeps fun b o e => (e0.bs b o e).1
  have hkind : ∀ y ∈ ps.zip us, scope.names.lookup y.1 = some .local ∨ (scope.names.lookup y.1 = some .cell ∧ ((cellsFrom (s.heap.objs.size + 1) scope.names []).lookup y.1).isSome = true) := fun ⟨n, v⟩ hy => by
    rcases S.par n (List.of_mem_zip hy).1 with q | q
    · exact .inl q
    · exact .inr ⟨q, PySem.W.cellsFrom_some _ _ _ (.inl q)⟩
  refine codeAny_call_function hr.depth (KX _ _ lk) rfl S.co S.gen rfl (PySem.W.codeRec_of KX hcd) (hb _ _ _ _ ?_)
  refine wpAny_newFunctionEnv_cells S.kind hkind fun env he s1 x => ?_
  subst he
  refine ⟨lim.keeps x.toInCall.keep, codeAny_func ?_⟩
  have ht := hbody cdv A outer s H E (hr.deeper _) hgd
  have I : Inv (CxB P w K mg base N qual scope f cdv A outer s H E) [] (L2.start N vs) H s1 := inv_start S hr.hd e0 hl r x
  have hq : rdS (CxB P w K mg base N qual scope f cdv A outer s H E) t { nx := fun _ H' => Q .non H', rt := Q } (L2.start N vs) H := by
    refine ⟨g, startP N.length as, S0, hS, repE_start ra N, ?_⟩
    unfold bodyF at hsp
    cases ho : t (startP N.length as) S0 with
    | rt v S' => rw [ho] at hsp; exact hsp
    | nx sp S' => rw [ho] at hsp; exact fun σ H' g' l q _ => hsp .non H' g' l q rfl
    | exc z sp S' =>
      rw [ho] at hsp
      have tk : Takes (CxB P w K mg base N qual scope f cdv A outer s H E) (fun cls d _ H => E cls d H) := takes_of rfl rfl rfl rfl
      exact Takes.imp tk fun cls d σ' H' ⟨g', l, q1, q2, q3⟩ => hsp cls d H' g' l q1 q3
    | bk sp S' => rw [ho] at hsp; exact hsp.elim
    | ct sp S' => rw [ho] at hsp; exact hsp.elim
    | stuck => rw [ho] at hsp; exact hsp.elim
  refine wpAny_mono (ht.run [] s1 (L2.start N vs) H _ I hq) (fun fl s' hs => ?_) fun e s' hs => hs
  have fin : ∀ {σ' : L2.St} {H' : Hp} {v : V} {u : Value}, Inv (CxB P w K mg base N qual scope f cdv A outer s H E) [] σ' H' s' → RelV v u → Q v H' → CE outer P w H s Q u s' :=
    fun {σ' H' v u} J rv q => ⟨v, H', J.os, J.bare, J.base, J.hok, rv, q⟩
  cases fl with
  | ret u =>
    obtain ⟨v, σ', H', J, rv, q⟩ := hs
    exact fin J rv q
  | next =>
    obtain ⟨σ', H', J, q⟩ := hs
    exact fin (v := V.non) (u := Value.none) J rfl q
  | brk =>
    obtain ⟨_, _, _, q⟩ := hs
    exact False.elim q
  | cont =>
    obtain ⟨_, _, _, q⟩ := hs
    exact False.elim q
/-- exceptions of a body pass a loop's turn -/
theorem passB {N : List Str} {cdv : Value} {A : Around} {outer : List Env} {s : Shared} {H : Hp} {E : XK} : PassesOwn (model (CxB P w K mg base N qual scope f cdv A outer s H E).prog (CxB P w K mg base N qual scope f cdv A outer s H E).w) (CxB P w K mg base N qual scope f cdv A outer s H E).A (CxB P w K mg base N qual scope f cdv A outer s H E).env (CxB P w K mg base N qual scope f cdv A outer s H E).xe :=
  passes_of rfl
end
end MX

end

section
/-! The end of a law; the head's facts with one more look. -/
namespace MX
open PySem PySem.Spec PyProof.Rows L2
theorem ints_repV {K : PySem.W.Frag} {g : Gh} : ∀ ns : List Int, RepVs K g (ns.map PV.int) (ns.map V.int)
  | [] => .nil
  | n :: ns => .cons rfl (ints_repV ns)
theorem law_start {K : PySem.W.Frag} {mg : Str → Option Value} {H : Hp} {a : Addr} {ns : List Int} {sem : Fs} (hS : LsQ K H a (ns.map V.int)) (h : ∃ S', sem [.lst (ns.map PV.int)] [] = .ok (.bl true) S') :
    spOf K mg 1 sem [.ref a] H (fun v _ => v = .bl true) fun _ _ _ => False := by
  obtain ⟨S', e⟩ := h
  refine ⟨⟨H, [], fun _ => none, []⟩, [], [.lst (ns.map PV.int)], ⟨fun _ _ e => e, rfl, fun i so a e1 _ => by simp at e1, fun i so a e1 _ _ => by simp at e1, fun i j so so' a e1 _ _ _ _ _ => by simp at e1, fun a o e => (by cases e), fun p hp => (by cases hp)⟩, .cons ⟨a, _, rfl, hS, ints_repV ns⟩ .nil, rfl, ?_⟩
  rw [e]
  exact fun v H' g' _ _ r => r
theorem law_run {P : Program} {w : World} {K : PySem.W.Frag} {mg mb : Str → Option Value} {k : Nat} {fa a : Addr} {fd : FuncData} {x : Str} {sem : Fs} {s₁ : Shared} {vs : List Value} {ns : List Int}
    (KX : K.In s₁.heap) (hns : s₁.heap.Ns mainGlobals mg) (hb : s₁.heap.Ns builtinsNs mb) (hbb : ∀ x : Str, x ≠ "__name__" → mb x = bootBuiltins x) (hlim : s₁.heap.NoLimit) (hg : s₁.gens = #[])
    (ha : s₁.heap.get? a = some { cls := .type "list", data := .seq vs.toArray }) (hi : IntsAre vs ns) (hl : ns.length ≤ sizeLine) (hr : Room k callerA)
    (F : ∀ base : Heap, K.In base → base.Ns mainGlobals mg → FnG P w K mg base k fa fd [x] sem) (hbind : ∀ (s : Shared) (u : Value), BindsTo s fd ⟨[u], []⟩ [(x, u)])
    (hsem : ∃ S', sem [.lst (ns.map PV.int)] [] = .ok (.bl true) S') :
    codeAny (model P w) callerA (.call (.ref fa) ⟨[.ref a], []⟩) (fun r s' => r = .ok (.ret (.bool true)) ∧ OldK s₁.heap s'.heap ∧ s'.os = s₁.os ∧ AllBare s'.gens) s₁ := by
  have rv := vals_ints hi
  have lenV := hi.length
  -- from an abstract heap in which nothing but the script may be tracked
  have core : ∀ H : Hp, Only H → LsQ K H a (ns.map V.int) → HOk P w H s₁.heap → (∀ b, H b ≠ none → b = a) → (H a ≠ none → K.lookup a = none) →
      codeAny (model P w) callerA (.call (.ref fa) ⟨[.ref a], []⟩) (fun r s' => r = .ok (.ret (.bool true)) ∧ OldK s₁.heap s'.heap ∧ s'.os = s₁.os ∧ AllBare s'.gens) s₁ := by
    intro H hO hS hok hA hK
    have hsp : spOf K mg ([x] : List Str).length sem [.ref a] H (fun v _ => v = .bl true) fun _ _ _ => False := law_start hS hsem
    have base_of : ∀ {b : Addr} {o : Obj}, s₁.heap.get? b = some o → H b = none → (hidT s₁.heap H).get? b = some o := fun e n => hidT_get e n
    have noA : ∀ {b : Addr} {o : Obj} {es : Array DictEntry} {ep : Nat}, s₁.heap.get? b = some o → o.data = .dict es ep → H b = none := fun {b o es ep} e d => by
      cases q : H b with
      | none => rfl
      | some u =>
        have e' : b = a := hA b (by rw [q]; simp)
        subst e'
        rw [ha] at e; cases e
        have d' : Data.seq vs.toArray _ = Data.dict es ep := d
        cases d'
    have nsK : ∀ {b : Addr} {m : Str → Option Value}, s₁.heap.Ns b m → (hidT s₁.heap H).Ns b m := fun {b m} ⟨o, es, ep, e, d, r⟩ => ⟨o, es, ep, base_of e (noA e d), d, r⟩
    have hKb : K.In (hidT s₁.heap H) := fun b o e => base_of (KX b o e) (by
      cases q : H b with
      | none => rfl
      | some u =>
        have e' : b = a := hA b (by rw [q]; simp)
        subst e'
        rw [hK (by rw [q]; simp)] at e; cases e)
    have hM : Mod K mg (hidT s₁.heap H) := ⟨hKb, nsK hns, ⟨mb, nsK hb, hbb⟩, let ⟨mc, h1, h2⟩ := hlim; ⟨mc, nsK h1, h2⟩⟩
    have e0 : Env0 P w K mg (hidT s₁.heap H) callerA [] s₁ H := ⟨rfl, hM, fun b o e => of_hidT e, Nat.le_of_eq (hidT_size _ _), trivial, fun b hb => absurd (show b ∈ ([] : List Addr) from hb) (by simp), hok, .of_eq hg⟩
    refine codeAny_mono ((F _ hKb (nsK hns)).run callerA [] s₁ H ⟨[.ref a], []⟩ [.ref a] [.ref a] _ _ hr rfl e0 (hbind s₁ (.ref a)) (.cons rfl .nil) hsp) fun r s' h => ?_
    cases r with
    | error e =>
      have h' : L2.CX P w [] H s₁ (fun _ _ _ => False) e s' := h
      obtain ⟨_, _, _, _, _, _, _, _, _, _, _, _, z⟩ := h'
      exact z.elim
    | ok fl =>
      cases fl with
      | next => exact False.elim h
      | brk => exact False.elim h
      | cont => exact False.elim h
      | ret u =>
        obtain ⟨v, H', os, bare, un, hok', r', q⟩ := h
        have q' : v = .bl true := q
        subst q'
        obtain rfl : u = Value.bool true := r'
        refine ⟨rfl, OldK.of_keep fun b o e => ?_, os, bare⟩
        cases q : H b with
        | none => exact un.keep b o e q (by intro z; exact absurd (show b ∈ ([] : List Addr) from z) (by simp)) (by simp)
        | some u =>
          rcases hO b with z | ⟨ob, xs, z⟩
          · rw [q] at z; cases z
          · have z2 := un.frzs b ob _ z
            obtain ⟨e1, _⟩ := hok b _ z
            obtain ⟨e2, _⟩ := hok' b _ z2
            rw [e] at e1; cases e1
            exact e2
  cases hk : K.lookup a with
  | some o =>
    -- the script is one of the module's own objects
    have e := KX a o hk
    rw [ha] at e
    cases e
    refine core (fun _ => none) (fun _ => .inl rfl) (.inr ⟨vs, _, hk, by rw [List.length_map]; exact hl, rv⟩) (fun b u z => by have z' : (none : Option HO) = some u := z; cases z') (fun b z => absurd rfl z) fun z => absurd rfl z
  | none =>
    refine core (fun b => if b = a then some (.frz { cls := .type "list", data := .seq vs.toArray } (.lst (ns.map V.int))) else none) (fun b => ?_) (.inl (.inr ⟨{ cls := .type "list", data := .seq vs.toArray }, if_pos rfl⟩)) (fun b u z => ?_) (fun b z => ?_) fun _ => hk
    · by_cases hb : b = a
      · exact .inr ⟨_, _, if_pos hb⟩
      · exact .inl (if_neg hb)
    · by_cases hb : b = a
      · have z' := (if_pos hb).symm.trans z
        cases z'
        subst hb
        exact ⟨ha, by rw [List.length_map]; exact hl, vs, _, rv, ha⟩
      · have z' := (if_neg hb).symm.trans z
        cases z'
    · by_cases hb : b = a
      · exact hb
      · exact absurd (if_neg hb) z

/-- the goal that the head leaves, from the law's own function -/
theorem law_walk {l : PySem.W.OpenLaw} {n k : Nat} {q : Program} {loose : List Str} {XP : (Str → Option Value) → Heap → Prop} {YP : World → Heap → Prop} {d : DefRec} {x : Str} (hn : l.most = some n) (hn2 : n ≤ sizeLine) (hdf : d.params.defaults = []) (hr : Room k callerA)
    (F : ∀ (w : World) (mg : Str → Option Value) (fa : Addr) (h : Heap), YP w h → h.Ns mainGlobals mg → mg d.name = some (.ref fa) → ∃ (K : PySem.W.Frag) (fd : FuncData) (sem : Fs), K.In h ∧ (∀ (s : Shared) (u : Value), BindsTo s fd ⟨[u], []⟩ [(x, u)]) ∧
      (∀ ns : List Int, ns.length ≤ n → ∃ S', sem [.lst (ns.map PV.int)] [] = .ok (.bl true) S') ∧ ∀ base : Heap, K.In base → base.Ns mainGlobals mg → FnG l.prog w K mg base k fa fd [x] sem) :
    PySem.W.WalkO q loose XP YP l.row.toRowW d [] (fun f vs => PySem.call f vs) := by
  refine Att.attach_call hn hdf fun w s₀ s₁ mg mb fa o pm cd doc a vs ns G Y ho hd hcd hmg hobj hints hlen hg => ?_
  obtain ⟨K, fd, sem, KX, hb, hsem, hF⟩ := F w mg fa _ Y G.T.g hmg
  exact law_run KX G.T.g G.T.b G.T.builtins G.T.nolimit hg hobj hints (Nat.le_trans hlen hn2) hr hF hb (hsem ns hlen)
end MX
namespace He
open PySem PySem.Spec PyProof.Rows L2
/-! ### the head's facts, and one more look at the written part -/
abbrev AlM : Type := AlD × Bool
def obsM (fa : List Fa) (fn : List DefD) (b : PySem.W.Frag → Bool) (K : PySem.W.Frag) : AlM := (obsD fa fn K, b K)
def SaysM (fa : List Fa) (fn : List DefD) (b : PySem.W.Frag → Bool) (K : PySem.W.Frag) : Prop := obsM fa fn b K = (valD fn, true)
def obsMG (n : Nat) (fa : List Fa) (fn : List DefD) (b : PySem.W.Frag → Bool) (g : Addr → Option Obj) : AlM := obsM fa fn b (frG g (asD g n))
def hookM (n : Nat) (fa : List Fa) (fn : List DefD) (b : PySem.W.Frag → Bool) : PySem.W.Hook where
  α := AlM
  obs := fun s => obsMG n fa fn b s.heap.get?
  val := fun _ => (valD fn, true)
  says := fun _ h => ∃ K : PySem.W.Frag, K.In h ∧ SaysM fa fn b K
  of := fun _ _ e => ⟨_, frG_in, e⟩
  keeps := fun _ _ _ ⟨K, hK, c⟩ k => ⟨K, PySem.W.Frag.In.keeps hK k, c⟩
theorem obsMG_eq {n : Nat} {fa : List Fa} {fn : List DefD} {b : PySem.W.Frag → Bool} {g : Addr → Option Obj} {s : Shared} (h : ∀ a, g a = s.heap.get? a) : obsMG n fa fn b g = (hookM n fa fn b).obs s := by
  have e : g = s.heap.get? := funext h
  rw [e] <;> rfl
theorem SaysM.d {fa : List Fa} {fn : List DefD} {b : PySem.W.Frag → Bool} {K : PySem.W.Frag} (c : SaysM fa fn b K) : SaysD fa fn K := congrArg (fun z : AlM => z.1) c
theorem SaysM.b {fa : List Fa} {fn : List DefD} {b : PySem.W.Frag → Bool} {K : PySem.W.Frag} (c : SaysM fa fn b K) : b K = true := congrArg (fun z : AlM => z.2) c
end He

end

section
/-! Small things that printed texts name. -/
namespace MX
open PySem PySem.Spec PyProof.Rows L2
theorem hu1 {k : Nat} {A : Around} (r : Room k A) : A.units + 1 < cLine := by have := r.un; omega
theorem hu64 {k : Nat} {A : Around} (r : Room k A) : A.units + 64 < cLine := by have := r.un; omega
theorem hu65 {k : Nat} {A : Around} (r : Room k A) : A.units + 65 < cLine := by have := r.un; omega
section
variable {X : Cx} {x : Str} {pos : Pos}
theorem se_gint {i : Int} (hg : Gl X x) (h : ∃ t, X.mg x = some (.int i t)) (hd : (x == ("__debug__" : Str)) = false := by decide) : PE X (.Name x pos) (rdE X (sxC (.int i))) := by
  obtain ⟨t, e⟩ := h
  exact se_glob hg e (v := .int i) ⟨t, rfl⟩ (fun _ => rfl) hd
theorem se_gstr {z : Str} (hg : Gl X x) (h : ∃ t, X.mg x = some (.str z t)) (hd : (x == ("__debug__" : Str)) = false := by decide) : PE X (.Name x pos) (rdE X (sxC (.str z))) := by
  obtain ⟨t, e⟩ := h
  exact se_glob hg e (v := .str z) ⟨t, rfl⟩ (fun _ => rfl) hd
/-- plain values that lean on nothing -/
def flatP : PV → Option V
  | .non => some .non
  | .bl b => some (.bl b)
  | .int i => some (.int i)
  | .str z => some (.str z)
  | _ => none
theorem flat_rep {K : PySem.W.Frag} {g : Gh} : ∀ {xs : List PV} {vs : List V}, xs.map flatP = vs.map some → RepVs K g xs vs
  | [], [], _ => .nil
  | [], _ :: _, h => by cases h
  | _ :: _, [], h => by cases h
  | a :: r, v :: t, h => by
    rw [List.map_cons, List.map_cons] at h
    injection h with h1 h2
    refine .cons ?_ (flat_rep h2)
    cases a <;> cases h1 <;> rfl
theorem se_gtup {xs : List PV} {vs : List V} (hg : Gl X x) (h : ∃ a, X.mg x = some (.ref a) ∧ ∀ H, SqT X.K H a vs) (hd : (x == ("__debug__" : Str)) = false := by decide) (hf : xs.map flatP = vs.map some := by rfl) : PE X (.Name x pos) (rdE X (sxC (.tup xs))) := by
  obtain ⟨a, e, q⟩ := h
  exact se_glob hg e (v := .ref a) rfl (fun g => ⟨a, vs, rfl, q _, flat_rep hf⟩) hd

/-! ### max(xs) of data -/
def alikeB (ds : List PyData) : Bool := (ds.all fun x => ds.all fun y => PySem.W.alike x y) && ds.all fun x => match x with
  | .none => false
  | _ => true
theorem alikeB_all {ds : List PyData} (h : alikeB ds = true) : PySem.W.AlikeAll ds := by
  unfold alikeB at h
  rw [Bool.and_eq_true, List.all_eq_true, List.all_eq_true] at h
  refine ⟨fun x hx y hy => (List.all_eq_true.mp (h.1 x hx)) y hy, fun x hx e => ?_⟩
  subst e
  have := h.2 _ hx
  simp at this
def gtAt (ds : List PyData) (i j : Nat) : Bool := PySem.W.dataLt (ds.getD j .none) (ds.getD i .none)
def ltAt (ds : List PyData) (i j : Nat) : Bool := PySem.W.dataLt (ds.getD i .none) (ds.getD j .none)
theorem vals_get' : ∀ {vs : List V} {us : List Value} {i : Nat} {u : Value}, Vals vs us → us[i]? = some u → ∃ v, vs[i]? = some v ∧ RelV v u
  | _, _, _, _, .nil, e => by simp at e
  | _ :: _, _ :: _, 0, u, .cons (a := a) r t, e => by
    simp at e; subst e
    exact ⟨_, rfl, r⟩
  | _ :: _, _ :: _, i + 1, u, .cons r t, e => by
    obtain ⟨v, q1, q2⟩ := vals_get' (i := i) t (by simpa using e)
    exact ⟨v, by simpa using q1, q2⟩
def vMaxL : VN := fun as S => match as with
  | [a] => match listOf S a with
    | some xs => match toDs xs with
      | some ds => if 0 < ds.length ∧ alikeB ds = true ∧ PyData.depthAll ds ≤ 60 then (xs[argBest (gtAt ds) (ds.length - 1)]?).map fun v => (v, S) else none
      | none => none
    | none => none
  | _ => none
theorem cl_maxL (hc : X.calm = true) (hu : X.A.units + 64 < cLine) : CallN X (.builtin "max") vMaxL := by
  intro pins s σ H xs us Q I r ⟨g, S, as, hS, rr, p⟩
  unfold vMaxL at p
  split at p
  · rename_i a
    split at p
    · rename_i ys e1
      split at p
      · rename_i ds e2
        split at p
        · rename_i hcond
          obtain ⟨h0, h1, h2⟩ := hcond
          obtain ⟨x, rfl, r1⟩ := rr.one
          obtain ⟨l, vs, q1, q2, q3⟩ := hS.list r1 e1
          subst q1
          rw [Vals.ref1 r]
          obtain ⟨its, n, z, rv, eo⟩ := q2.obj I
          have hl : s.heap.IsList l its.toArray := ⟨_, eo, rfl, n, rfl⟩
          have hdp : DpAll X.K H vs ds := toDs_rep hS.fz ys vs ds q3 e2
          obtain ⟨bs, hr⟩ := Dp.readsAll I ds _ its hdp rv
          have hr' : ReadsAll s.heap its.toArray.toList ds bs := hr
          have hn : its.toArray.size = ds.length := PySem.W.readsAll_len hr'
          refine PySem.call_max_walkH (PySem.W.iter_listW (A := X.A.in1) (I.ok.hd hc) hl fun s₂ e W st hfp hw hk => ?_)
          refine ⟨_, _, _, _, _, _, _, s.heap, _, rfl, W, st, hfp, by omega, hw, hk, PySem.W.cmpIn_gt (A := X.A.in1) hr' (alikeB_all h1) (by show X.A.units + 1 + _ < _; omega), fun v s' hP m => ?_⟩
          obtain ⟨h', tk, rfl, hk'⟩ := PySem.W.moved_old e rfl m
          rw [hn] at hP
          have hP' : its[argBest (gtAt ds) (ds.length - 1)]? = some v := (List.getElem?_toArray ..).symm.trans hP
          obtain ⟨w', w1, w2⟩ := vals_get' rv hP'
          obtain ⟨y, y1, y2⟩ := q3.get' w1
          rw [y1] at p
          exact ⟨w', H, I.kept hk', w2, p.now hS y2⟩
        · exact p.elim
      · exact p.elim
    · exact p.elim
  · exact p.elim
end

/-! ### a function's record, by its place -/
def fd0 : FuncData := { name := "", qualname := "", params := { posonlyargs := [], args := [], vararg := none, kwonlyargs := [], kw_defaults := [], kwarg := none, defaults := [] }, body := .stmts [], scope := { (default : Scope) with }, globals := 0, closure := [], defaults := .none, kwdefaults := .none }
def fdOf (K : PySem.W.Frag) (a : Addr) : FuncData := match K.lookup a with
  | some o => match o.data with
    | .func fd => fd
    | _ => fd0
  | none => fd0
theorem FunD.toOf {K : PySem.W.Frag} {x qual : Str} {params : Arguments} {body : List Stmt} {scope : Scope} {dvs : List V} {kws : List (Str × V)} {f : Addr} {fd : FuncData} (F : FunD K x qual params body scope dvs kws f fd) : FunD K x qual params body scope dvs kws f (fdOf K f) := by
  have e : fdOf K f = fd := by
    obtain ⟨oc, od, dV, kV, doc, pm, an, cdv, ct, osl, e1, e2, _⟩ := F.ex
    unfold fdOf
    rw [e2]
  rw [e]; exact F

/-! ### t * 1 -/
theorem tuple_mul1 (l : Addr) (its : Array Value) (n : Nat) (dd : Option Addr) (sl : Array (Option Value)) (u : Tok) :
    Meets (Builtin.«tuple.__mul__» ⟨[.ref l, .int 1 u], []⟩) (fun _ R s => s.heap.get? l = some { cls := .type "tuple", dict := dd, data := .seq its n, slots := sl } ∧ R (.ok (.ret (Value.ref l))) s) :=
  .of_wp fun prog w A R s h => by
    obtain ⟨hp, g, d, tk, os⟩ := s
    obtain ⟨hl, h⟩ := h
    have f1 := AutoSeq1.idx_int
    wp_walk using wpAny_loadPart' hl
    exact ⟨_, rfl, h⟩
def vMulT : V2 := fun a b S => match a, b with
  | .tup xs, .int k => if k = 1 then some (.tup xs, S) else vMul (.tup xs) (.int k) S
  | a, b => vMul a b S
theorem op_mulT {X : Cx} : Op2 X (binaryOp .Mult) vMulT := by
  intro pins s σ H x y v u Q I rx ry ⟨g, S, a, b, hS, r1, r2, p⟩
  unfold vMulT at p
  split at p
  · rename_i xs k
    split at p
    · rename_i hk
      subst hk
      obtain ⟨l, vs, q1, q2, q3⟩ := id r1
      subst q1
      cases rx
      have e2 : y = V.int 1 := r2
      subst e2
      obtain ⟨t, rfl⟩ := ry
      obtain ⟨its, r, ⟨⟨cls, dd, data, sl⟩, ho, hc, n, hd⟩, hs⟩ := I.tuple (SqT.mono hS.fz q2)
      simp only at hc hd
      subst hc hd
      refine wpAny_binaryOp_repeat_ref (T := "tuple") (U := "int") (by decide) ⟨_, ho, rfl⟩ (fun s' => typeIs_int s' 1 t) noFill_tuple_mul F.fills_int_mul F.slot_int_rmul repeat_tuple F.slot_int_index.lookup
        (call_meets F.slot_int_rmul (typeIs_int s 1 t) F.entry_int_rmul (F.args_int_rmul_2 _ _) (int_rmul_tuple 1 t l its.toArray n dd sl)
          ⟨ho, rfl, ⟨_, ho, rfl⟩, call_meets F.slot_tuple_mul ⟨_, ho, rfl⟩ F.entry_tuple_mul (F.args_tuple_mul_2 _ _) (tuple_mul1 l its.toArray n dd sl t) ⟨ho, ?_⟩⟩)
      exact ⟨.ref l, H, I, rfl, p.now hS r1⟩
    · exact op_mul' pins s σ H x y v u Q I rx ry ⟨g, S, _, _, hS, r1, r2, p⟩
  · exact op_mul' pins s σ H x y v u Q I rx ry ⟨g, S, _, _, hS, r1, r2, p⟩
/-- texts, of any letters; else as before -/
def vEqS : V2 := fun a b S => match a, b with
  | .str x, .str y => some (.bl (decide (x = y)), S)
  | a, b => vEq a b S
theorem op_eqS {X : Cx} (hu : X.A.units + 64 < cLine) : Op2 X (compareOp .Eq) vEqS := by
  intro pins s σ H x y v u Q I rx ry ⟨g, S, a, b, hS, r1, r2, p⟩
  unfold vEqS at p
  split at p
  · rename_i z w
    have e1 : x = V.str z := r1
    have e2 : y = V.str w := r2
    subst e1 e2
    refine op_eq pins s σ H _ _ v u Q I rx ry ⟨rfl, ?_⟩
    have e : decide (V.str z = V.str w) = decide (z = w) := decide_eq_decide.mpr ⟨fun q => by cases q; rfl, fun q => by rw [q]⟩
    rw [e]
    exact p.now hS rfl
  · exact op_eq' hu pins s σ H x y v u Q I rx ry ⟨g, S, _, _, hS, r1, r2, p⟩
end MX

end

section
/-! What the defs compute. -/
namespace K05
open PySem PySem.Spec PyProof.Rows L2 MX
def t_is_whole : Ss := (ssRet (sxAnd (sx1 (vIsInst "int") (sxVar 0)) (sxAnd (sxNot (sx1 (vIsInst "bool") (sxVar 0))) (sxChain vLe vLe (sxVar 1) (sxVar 0) (sxVar 2)))))
def m_is_whole : Fs := bodyF 3 t_is_whole
def t_is_thing_1 : Sx := (sx2 vIn (sxVar 1) (sxC (.str "abcdefghijklmnopqrstuvwxyz")))
def t_is_thing : Ss := (ssSeq (ssIf (stOr (stNot (stB (sx1 (vIsInst "str") (sxVar 0)))) (stNot (stB (sxChain vLe vLe (sxC (.int 1)) (sxN vLen (saCons (sxVar 0) saNil)) (sxC (.int 3)))))) (ssRet (sxC (.bl false))) ssNil) (ssRet (sxN vAll (saCons (sxLc fzL (siSeq (sxVar 0)) [1] (sgName 1) stYes t_is_thing_1) saNil))))
def m_is_thing : Fs := bodyF 2 t_is_thing
def t_is_step : Ss := (ssSeq (ssIf (stOr (stNot (stB (sx1 (vIsInst "tuple") (sxVar 0)))) (stOr (stB (sx2 vNe (sxN vLen (saCons (sxVar 0) saNil)) (sxC (.int 2)))) (stNot (stB (sx1 (vIsInst "str") (sx2 vItem (sxVar 0) (sxC (.int 0)))))))) (ssRet (sxC (.bl false))) ssNil) (ssRet (sxAnd (sx2 vIn (sx2 vItem (sxVar 0) (sxC (.int 0))) (sxN vTup (saCons (sxC (.str "look")) (saCons (sxC (.str "mark")) saNil)))) (sxCall 1 m_is_thing (saCons (sx2 vItem (sxVar 0) (sxC (.int 1))) saNil)))))
def m_is_step : Fs := bodyF 1 t_is_step
def t_can_follow : Ss := (ssSeq (ssIf (stOr (stNot (stB (sxCall 1 m_is_step (saCons (sxVar 1) saNil)))) (stB (sx2 vIn (sxVar 1) (sxVar 0)))) (ssRet (sxC (.bl false))) ssNil) (ssRet (sxOr (sx2 vEq (sx2 vItem (sxVar 1) (sxC (.int 0))) (sxC (.str "mark"))) (sx2 vNotIn (sxN vTup (saCons (sxC (.str "mark")) (saCons (sx2 vItem (sxVar 1) (sxC (.int 1))) saNil))) (sxVar 0)))))
def m_can_follow : Fs := bodyF 2 t_can_follow
def t_wrong_step_1 : Ss := (ssIf (stNot (stB (sxCall 2 m_can_follow (saCons (sxSl vSl (sxVar 0) soNo (soPart (sxVar 1))) (saCons (sxVar 2) saNil))))) (ssRet (sxVar 1)) ssNil)
def t_wrong_step : Ss := (ssSeq (ssFor (siEnum (sxVar 0)) (sgTup 2 (sgCons (sgName 1) (sgCons (sgName 2) sgNil))) t_wrong_step_1) (ssRet (sxC .non)))
def m_wrong_step : Fs := bodyF 3 t_wrong_step
def t_wrong_place_1 : Ss := (ssSeq (ssIf (stOr (stNot (stB (sx1 (vIsInst "tuple") (sxVar 2)))) (stNot (stB (sxChain vLe vLe (sxC (.int 1)) (sxN vLen (saCons (sxVar 2) saNil)) (sxC (.int 5)))))) (ssRet (sxN vTup (saCons (sxVar 1) saNil))) ssNil) (ssSeq (ssSet 3 (sxCall 1 m_wrong_step (saCons (sxVar 2) saNil))) (ssIf (stB (sx2 vIsNotN (sxVar 3) (sxC .non))) (ssRet (sxN vTup (saCons (sxVar 1) (saCons (sxVar 3) saNil)))) ssNil)))
def t_wrong_place : Ss := (ssSeq (ssIf (stOr (stNot (stB (sx1 (vIsInst "tuple") (sxVar 0)))) (stNot (stB (sxChain vLe vLe (sxC (.int 1)) (sxN vLen (saCons (sxVar 0) saNil)) (sxC (.int 5)))))) (ssRet (sxN vTup saNil)) ssNil) (ssSeq (ssFor (siEnum (sxVar 0)) (sgTup 2 (sgCons (sgName 1) (sgCons (sgName 2) sgNil))) t_wrong_place_1) (ssRet (sxC .non))))
def m_wrong_place : Fs := bodyF 4 t_wrong_place
def t_need_lot : Ss := (ssSeq (ssSet 1 (sxCall 1 m_wrong_place (saCons (sxVar 0) saNil))) (ssSeq (ssIf (stB (sx2 vIsNotN (sxVar 1) (sxC .non))) ssNo ssNil) (ssRet (sxVar 0))))
def m_need_lot : Fs := bodyF 2 t_need_lot
def t_are_levels_1 : Sx := (sxAnd (sx1 (vIsInst "str") (sxVar 2)) (sx2 vIn (sxVar 2) (sxC (.tup [.str "late", .str "early", .str "guarded"]))))
def t_are_levels : Ss := (ssSeq (ssIf (stOr (stNot (stB (sx1 (vIsInst "tuple") (sxVar 1)))) (stB (sx2 vNe (sxN vLen (saCons (sxVar 1) saNil)) (sxN vLen (saCons (sxVar 0) saNil))))) (ssRet (sxC (.bl false))) ssNil) (ssRet (sxN vAll (saCons (sxLc fzL (siSeq (sxVar 1)) [2] (sgName 2) stYes t_are_levels_1) saNil))))
def m_are_levels : Fs := bodyF 3 t_are_levels
def t_need_levels : Ss := (ssSeq (ssExpr (sxCall 1 m_need_lot (saCons (sxVar 0) saNil))) (ssSeq (ssIf (stNot (stB (sxCall 2 m_are_levels (saCons (sxVar 0) (saCons (sxVar 1) saNil))))) ssNo ssNil) (ssRet (sxVar 1))))
def m_need_levels : Fs := bodyF 2 t_need_levels
def t_wrong_spot_1 : Sx := (sx2 vAdd (sxN vLen (saCons (sxVar 5) saNil)) (sxC (.int 1)))
def t_wrong_spot_2 : Ss := (ssSeq (ssIf (stOr (stNot (stB (sxCall 3 m_is_whole (saCons (sxVar 4) (saCons (sxC (.int 0)) (saCons (sx2 vSub (sxN vLen (saCons (sxVar 0) saNil)) (sxC (.int 1))) saNil)))))) (stB (sx2 vEq (sx2 vItem (sxVar 2) (sxVar 4)) (sxC (.int 0))))) (ssRet (sxVar 3)) ssNil) (ssAugSub vSub (sxVar 2) (sxVar 4) (sxC (.int 1))))
def t_wrong_spot : Ss := (ssSeq (ssSet 2 (sxLc nwL (siSeq (sxVar 0)) [5] (sgName 5) stYes t_wrong_spot_1)) (ssSeq (ssFor (siEnum (sxVar 1)) (sgTup 2 (sgCons (sgName 3) (sgCons (sgName 4) sgNil))) t_wrong_spot_2) (ssRet (sxC .non))))
def m_wrong_spot : Fs := bodyF 6 t_wrong_spot
def t_need_run_1 : Sx := (sx2 vAdd (sxN vLen (saCons (sxVar 3) saNil)) (sxC (.int 1)))
def t_need_run : Ss := (ssSeq (ssExpr (sxCall 1 m_need_lot (saCons (sxVar 0) saNil))) (ssSeq (ssIf (stOr (stNot (stB (sx1 (vIsInst "tuple") (sxVar 1)))) (stB (sx2 vNe (sxN vLen (saCons (sxVar 1) saNil)) (sxN vSum (saCons (sxLc fzL (siSeq (sxVar 0)) [3] (sgName 3) stYes t_need_run_1) saNil))))) ssNo ssNil) (ssSeq (ssSet 2 (sxCall 2 m_wrong_spot (saCons (sxVar 0) (saCons (sxVar 1) saNil)))) (ssSeq (ssIf (stB (sx2 vIsNotN (sxVar 2) (sxC .non))) ssNo ssNil) (ssRet (sxVar 1))))))
def m_need_run : Fs := bodyF 4 t_need_run
def t_times_of_1 : St' := (stB (sx2 vEq (sxVar 4) (sxVar 2)))
def t_times_of_2 : Sx := (sxVar 3)
def t_times_of_3 : Sx := (sxLc fzL (siEnum (sxVar 1)) [3, 4] (sgTup 2 (sgCons (sgName 3) (sgCons (sgName 4) sgNil))) t_times_of_1 t_times_of_2)
def t_times_of : Ss := (ssRet (sxLc fzL (siRange1 (sxN vLen (saCons (sxVar 0) saNil))) [2] (sgName 2) stYes t_times_of_3))
def m_times_of : Fs := bodyF 5 t_times_of
def t_need_all : Ss := (ssSeq (ssExpr (sxCall 2 m_need_levels (saCons (sxVar 0) (saCons (sxVar 1) saNil)))) (ssExpr (sxCall 2 m_need_run (saCons (sxVar 0) (saCons (sxVar 2) saNil)))))
def m_need_all : Fs := bodyF 3 t_need_all
def t_markers_1 : St' := (stAnd (stB (sx2 vNe (sxVar 3) (sxVar 1))) (stB (sx2 vIn (sxN vTup (saCons (sxC (.str "mark")) (saCons (sxVar 2) saNil))) (sxVar 4))))
def t_markers_2 : Sx := (sxVar 3)
def t_markers : Ss := (ssRet (sxLc fzL (siEnum (sxVar 0)) [3, 4] (sgTup 2 (sgCons (sgName 3) (sgCons (sgName 4) sgNil))) t_markers_1 t_markers_2))
def m_markers : Fs := bodyF 5 t_markers
def t_sight_of_1 : St' := (stB (sx2 vLt (sx2 vItem (sx2 vItem (sxVar 2) (sxVar 7)) (sx1 vNeg (sxC (.int 1)))) (sxVar 5)))
def t_sight_of_2 : Sx := (sxN vTup (saCons (sx2 vItem (sx2 vItem (sxVar 2) (sxVar 7)) (sx1 vNeg (sxC (.int 1)))) (saCons (sxVar 7) saNil)))
def t_sight_of : Ss := (ssSeq (ssSet 5 (sx2 vItem (sx2 vItem (sxVar 2) (sxVar 3)) (sxIf (stB (sx2 vEq (sx2 vItem (sxVar 1) (sxVar 3)) (sxC (.str "late")))) (sxVar 4) (sxC (.int 0))))) (ssSeq (ssSet 6 (sxLc fzL (siSeq (sxCall 3 m_markers (saCons (sxVar 0) (saCons (sxVar 3) (saCons (sx2 vItem (sx2 vItem (sx2 vItem (sxVar 0) (sxVar 3)) (sxVar 4)) (sxC (.int 1))) saNil))))) [7] (sgName 7) t_sight_of_1 t_sight_of_2)) (ssRet (sxIf (stB (sx2 vNe (sxVar 6) (sxN vLst saNil))) (sx2 vItem (sxN vMaxL (saCons (sxVar 6) saNil)) (sxC (.int 1))) (sxC .non)))))
def m_sight_of : Fs := bodyF 8 t_sight_of
def t_seen_in_1 : Ss := (ssIf (stB (sx2 vEq (sxVar 7) (sxC (.str "look")))) (ssExpr (sxMt isL vAppend (sxVar 3) (saCons (sxN vTup (saCons (sxVar 4) (saCons (sxVar 6) (saCons (sxCall 5 m_sight_of (saCons (sxVar 0) (saCons (sxVar 1) (saCons (sxVar 2) (saCons (sxVar 4) (saCons (sxVar 6) saNil)))))) saNil)))) saNil))) ssNil)
def t_seen_in_2 : Ss := (ssFor (siEnum (sxVar 5)) (sgTup 2 (sgCons (sgName 6) (sgCons (sgTup 2 (sgCons (sgName 7) (sgCons (sgName 8) sgNil))) sgNil))) t_seen_in_1)
def t_seen_in : Ss := (ssSeq (ssSet 3 (sxN vNew saNil)) (ssSeq (ssFor (siEnum (sxVar 0)) (sgTup 2 (sgCons (sgName 4) (sgCons (sgName 5) sgNil))) t_seen_in_2) (ssRet (sxVar 3))))
def m_seen_in : Fs := bodyF 9 t_seen_in
def t_seen : Ss := (ssSeq (ssExpr (sxCall 3 m_need_all (saCons (sxVar 0) (saCons (sxVar 1) (saCons (sxVar 2) saNil))))) (ssRet (sxN vTuple (saCons (sxCall 3 m_seen_in (saCons (sxVar 0) (saCons (sxVar 1) (saCons (sxCall 2 m_times_of (saCons (sxVar 0) (saCons (sxVar 2) saNil))) saNil)))) saNil))))
def m_seen : Fs := bodyF 3 t_seen
def t_l_begun_1 : St' := (stB (sx2 vGe (sxVar 5) (sx2 vPow (sxC (.int 10)) (sxC (.int 18)))))
def t_l_begun_2 : Sx := (sxVar 5)
def t_l_begun_3 : Ss := (ssSet 4 (sx2 vMod (sxN vInt (saCons (sx2 vAdd (sx2 vMulT (sxVar 4) (sxC (.int 48271))) (sxVar 5)) saNil)) (sxC (.int 2147483647))))
def t_l_begun : Ss := (ssSeq (ssSet 2 (sx2 vAdd (sxSl vSl (sxVar 0) (soPart (sxVar 1)) soNo) (sxSl vSl (sxVar 0) soNo (soPart (sxVar 1))))) (ssSeq (ssSet 3 (sxLc fzL (siSeq (sxVar 2)) [5] (sgName 5) t_l_begun_1 t_l_begun_2)) (ssSeq (ssSet 4 (sx2 vAdd (sxC (.int 89)) (sxVar 1))) (ssSeq (ssFor (siSeq (sxVar 2)) (sgName 5) t_l_begun_3) (ssRet (sxDisp [((sxC (.str "left")), (sxIf (stB (sx2 vNe (sxVar 3) (sxN vLst saNil))) (sx2 vItem (sxVar 3) (sxC (.int 0))) (sxC (.int 0)))), ((sxC (.str "seed")), (sxVar 4)), ((sxC (.str "cells")), (sx2 vAdd (sxVar 2) (sxN vLst (saCons (sx2 vAdd (sx2 vMulT (sxC (.int 29)) (sxVar 1)) (sxC (.int 7))) saNil)))), ((sxC (.str "spot")), (sxC (.int 0)))]))))))
def m_l_begun : Fs := bodyF 6 t_l_begun
def t_l_draw : Ss := (ssSeq (ssIf (stB (sx2 vGt (sx2 vDItem (sxVar 0) (sxC (.str "left"))) (sxC (.int 0)))) (ssSeq (ssSet 2 (sx2 vMod (sxN vInt (saCons (sx2 vDItem (sxVar 0) (sxC (.str "left"))) saNil)) (sxVar 1))) (ssSeq (ssSub (sxVar 0) (sxC (.str "left")) (sx2 vFDiv (sx2 vDItem (sxVar 0) (sxC (.str "left"))) (sxVar 1))) (ssRet (sxVar 2)))) ssNil) (ssSeq (ssSet 3 (sx2 vDItem (sxVar 0) (sxC (.str "spot")))) (ssSeq (ssSub (sxVar 0) (sxC (.str "spot")) (sx2 vAdd (sxVar 3) (sxC (.int 1)))) (ssSeq (ssPar 4 5 (saCons (sx2 vDItem (sxVar 0) (sxC (.str "cells"))) (saCons (sx2 vAdd (sx2 vDItem (sxVar 0) (sxC (.str "seed"))) (sx2 vMulT (sx2 vMulT (sxC (.int 40503)) (sxVar 3)) (sxVar 3))) saNil))) (ssSeq (ssSet 6 (sx2 vItem (sxVar 4) (sx2 vMod (sxN vInt (saCons (sxVar 3) saNil)) (sxN vLen (saCons (sxVar 4) saNil))))) (ssSeq (ssSet 7 (sx2 vMod (sxN vInt (saCons (sx2 vAdd (sx2 vMulT (sxVar 6) (sx2 vAdd (sx2 vMulT (sxC (.int 2)) (sxVar 3)) (sxC (.int 3)))) (sxVar 5)) saNil)) (sxC (.int 2147483647)))) (ssSeq (ssSet 7 (sx2 vMod (sxN vInt (saCons (sx2 vAdd (sx2 vAdd (sx2 vMulT (sxVar 7) (sxVar 7)) (sx2 vMulT (sxC (.int 69621)) (sxVar 3))) (sx2 vDItem (sxVar 0) (sxC (.str "seed")))) saNil)) (sxC (.int 2147483629)))) (ssRet (sx2 vMod (sx2 vFDiv (sx2 vMod (sxN vInt (saCons (sx2 vAdd (sx2 vMulT (sxVar 7) (sxC (.int 48271))) (sxVar 3)) saNil)) (sxC (.int 2147483647))) (sxC (.int 11))) (sxVar 1))))))))))
def m_l_draw : Fs := bodyF 8 t_l_draw
def t_l_of : Ss := (ssRet (sx2 vItem (sxVar 1) (sxCall 2 m_l_draw (saCons (sxVar 0) (saCons (sxN vLen (saCons (sxVar 1) saNil)) saNil)))))
def m_l_of : Fs := bodyF 2 t_l_of
def t_l_deed_1 : Ss := (ssSeq (ssSet 5 (sxN vTup (saCons (sx2 vItem (sxN vLst (saCons (sxC (.str "look")) (saCons (sxC (.str "mark")) saNil))) (sxCall 2 m_l_draw (saCons (sxVar 0) (saCons (sxC (.int 2)) saNil)))) (saCons (sxCall 2 m_l_of (saCons (sxVar 0) (saCons (sxVar 1) saNil))) saNil)))) (ssIf (stAnd (stB (sx2 vNotIn (sxVar 5) (sxVar 3))) (stOr (stB (sx2 vEq (sx2 vItem (sxVar 5) (sxC (.int 0))) (sxC (.str "mark")))) (stB (sx2 vNotIn (sxN vTup (saCons (sxC (.str "mark")) (saCons (sx2 vItem (sxVar 5) (sxC (.int 1))) saNil))) (sxVar 3))))) (ssExpr (sxMt isL vAppend (sxVar 3) (saCons (sxVar 5) saNil))) ssNil))
def t_l_deed : Ss := (ssSeq (ssSet 3 (sxN vNew saNil)) (ssSeq (ssFor (siRange1 (sx2 vAdd (sxC (.int 1)) (sxCall 2 m_l_draw (saCons (sxVar 0) (saCons (sxVar 2) saNil))))) (sgName 4) t_l_deed_1) (ssRet (sxN vTuple (saCons (sxVar 3) saNil)))))
def m_l_deed : Fs := bodyF 6 t_l_deed
def t_l_crew_1 : Sx := (sxCall 3 m_l_deed (saCons (sxVar 0) (saCons (sxVar 3) (saCons (sxVar 2) saNil))))
def t_l_crew : Ss := (ssSeq (ssSet 3 (sxCall 2 m_l_of (saCons (sxVar 0) (saCons (sxN vLst (saCons (sxN vLst (saCons (sxC (.str "a")) saNil)) (saCons (sxN vLst (saCons (sxC (.str "a")) (saCons (sxC (.str "b")) saNil))) (saCons (sxN vLst (saCons (sxC (.str "a")) (saCons (sxC (.str "b")) (saCons (sxC (.str "c")) saNil)))) (saCons (sxN vLst (saCons (sxC (.str "a")) (saCons (sxC (.str "ab")) (saCons (sxC (.str "b")) saNil)))) (saCons (sxN vLst (saCons (sxC (.str "xy")) (saCons (sxC (.str "xyz")) saNil))) (saCons (sxN vLst (saCons (sxC (.str "a")) (saCons (sxC (.str "b")) (saCons (sxC (.str "c")) (saCons (sxC (.str "d")) saNil))))) saNil))))))) saNil)))) (ssRet (sxN vTuple (saCons (sxLc fzL (siRange1 (sx2 vAdd (sxC (.int 1)) (sxCall 2 m_l_draw (saCons (sxVar 0) (saCons (sxVar 1) saNil))))) [4] (sgName 4) stYes t_l_crew_1) saNil))))
def m_l_crew : Fs := bodyF 5 t_l_crew
def t_l_tiers_1 : Sx := (sx2 vItem (sxN vLst (saCons (sxC (.str "late")) (saCons (sxC (.str "early")) (saCons (sxC (.str "guarded")) saNil)))) (sxCall 2 m_l_draw (saCons (sxVar 0) (saCons (sxC (.int 3)) saNil))))
def t_l_tiers : Ss := (ssRet (sxN vTuple (saCons (sxLc fzL (siSeq (sxVar 1)) [2] (sgName 2) stYes t_l_tiers_1) saNil)))
def m_l_tiers : Fs := bodyF 3 t_l_tiers
def t_l_course_1 : Sx := (sx2 vAdd (sxN vLen (saCons (sxVar 6) saNil)) (sxC (.int 1)))
def t_l_course_2 : St' := (stB (sx2 vGt (sx2 vItem (sxVar 2) (sxVar 5)) (sxC (.int 0))))
def t_l_course_3 : Sx := (sxVar 5)
def t_l_course_4 : St' := (stB (sx2 vGt (sxN vSum (saCons (sxVar 2) saNil)) (sxC (.int 0))))
def t_l_course_5 : Ss := (ssSeq (ssSet 4 (sxLc fzL (siRange1 (sxN vLen (saCons (sxVar 1) saNil))) [5] (sgName 5) t_l_course_2 t_l_course_3)) (ssSeq (ssSet 5 (sx2 vItem (sxVar 4) (sxCall 2 m_l_draw (saCons (sxVar 0) (saCons (sxN vLen (saCons (sxVar 4) saNil)) saNil))))) (ssSeq (ssIf (stAnd (stB (sx2 vNe (sxVar 3) (sxN vLst saNil))) (stAnd (stB (sx2 vGt (sx2 vItem (sxVar 2) (sx2 vItem (sxVar 3) (sx1 vNeg (sxC (.int 1))))) (sxC (.int 0)))) (stB (sx2 vEq (sxCall 2 m_l_draw (saCons (sxVar 0) (saCons (sxC (.int 2)) saNil))) (sxC (.int 0)))))) (ssSet 5 (sx2 vItem (sxVar 3) (sx1 vNeg (sxC (.int 1))))) ssNil) (ssSeq (ssSub (sxVar 2) (sxVar 5) (sx2 vSub (sx2 vItem (sxVar 2) (sxVar 5)) (sxC (.int 1)))) (ssExpr (sxMt isL vAppend (sxVar 3) (saCons (sxVar 5) saNil)))))))
def t_l_course : Ss := (ssSeq (ssAsg (sxN vTup (saCons (sxLc nwL (siSeq (sxVar 1)) [6] (sgName 6) stYes t_l_course_1) (saCons (sxN vNew saNil) saNil))) (sgTup 2 (sgCons (sgName 2) (sgCons (sgName 3) sgNil)))) (ssSeq (ssWhile 1000000 t_l_course_4 t_l_course_5) (ssRet (sxN vTuple (saCons (sxVar 3) saNil)))))
def m_l_course : Fs := bodyF 7 t_l_course
def t_l_clocks_1 : Sx := (sxN vNew saNil)
def t_l_clocks_2 : Ss := (ssExpr (sxMt isL vAppend (sx2 vItem (sxVar 2) (sxVar 4)) (saCons (sxVar 3) saNil)))
def t_l_clocks : Ss := (ssSeq (ssSet 2 (sxLc fzL (siSeq (sxVar 0)) [5] (sgName 5) stYes t_l_clocks_1)) (ssSeq (ssFor (siEnum (sxVar 1)) (sgTup 2 (sgCons (sgName 3) (sgCons (sgName 4) sgNil))) t_l_clocks_2) (ssRet (sxVar 2))))
def m_l_clocks : Fs := bodyF 6 t_l_clocks
def t_l_marks : Ss := (ssRet (sx2 vIn (sxN vTup (saCons (sxC (.str "mark")) (saCons (sxVar 1) saNil))) (sxVar 0)))
def m_l_marks : Fs := bodyF 2 t_l_marks
def t_l_sight_1 : Ss := (ssIf (stAnd (stB (sx2 vNe (sxVar 8) (sxVar 3))) (stAnd (stB (sxCall 2 m_l_marks (saCons (sx2 vItem (sxVar 0) (sxVar 8)) (saCons (sxVar 6) saNil)))) (stB (sx2 vLt (sx2 vItem (sx2 vItem (sxVar 2) (sxVar 8)) (sx1 vNeg (sxC (.int 1)))) (sxVar 5))))) (ssIf (stOr (stB (sx2 vIsN (sxVar 7) (sxC .non))) (stB (sx2 vGt (sx2 vItem (sx2 vItem (sxVar 2) (sxVar 8)) (sx1 vNeg (sxC (.int 1)))) (sx2 vItem (sx2 vItem (sxVar 2) (sxVar 7)) (sx1 vNeg (sxC (.int 1))))))) (ssSet 7 (sxVar 8)) ssNil) ssNil)
def t_l_sight : Ss := (ssSeq (ssPar 5 6 (saCons (sx2 vItem (sx2 vItem (sxVar 2) (sxVar 3)) (sxC (.int 0))) (saCons (sx2 vItem (sx2 vItem (sx2 vItem (sxVar 0) (sxVar 3)) (sxVar 4)) (sxC (.int 1))) saNil))) (ssSeq (ssIf (stB (sx2 vEq (sx2 vItem (sxVar 1) (sxVar 3)) (sxC (.str "late")))) (ssSet 5 (sx2 vItem (sx2 vItem (sxVar 2) (sxVar 3)) (sxVar 4))) ssNil) (ssSeq (ssSet 7 (sxC .non)) (ssSeq (ssFor (siRange1 (sxN vLen (saCons (sxVar 0) saNil))) (sgName 8) t_l_sight_1) (ssRet (sxVar 7))))))
def m_l_sight : Fs := bodyF 9 t_l_sight
def t_l_looks_1 : St' := (stB (sx2 vEq (sx2 vItem (sx2 vItem (sxVar 0) (sxVar 1)) (sxC (.int 0))) (sxC (.str "look"))))
def t_l_looks_2 : Sx := (sxVar 1)
def t_l_looks : Ss := (ssRet (sxLc fzL (siRange1 (sxN vLen (saCons (sxVar 0) saNil))) [1] (sgName 1) t_l_looks_1 t_l_looks_2))
def m_l_looks : Fs := bodyF 2 t_l_looks
def t_l_due_1 : Ss := (ssExpr (sxMt isL vAppend (sxVar 4) (saCons (sxN vTup (saCons (sxVar 5) (saCons (sxVar 6) (saCons (sxCall 5 m_l_sight (saCons (sxVar 0) (saCons (sxVar 1) (saCons (sxVar 3) (saCons (sxVar 5) (saCons (sxVar 6) saNil)))))) saNil)))) saNil)))
def t_l_due_2 : Ss := (ssFor (siSeq (sxCall 1 m_l_looks (saCons (sx2 vItem (sxVar 0) (sxVar 5)) saNil))) (sgName 6) t_l_due_1)
def t_l_due : Ss := (ssSeq (ssPar 3 4 (saCons (sxCall 2 m_l_clocks (saCons (sxVar 0) (saCons (sxVar 2) saNil))) (saCons (sxN vNew saNil) saNil))) (ssSeq (ssFor (siRange1 (sxN vLen (saCons (sxVar 0) saNil))) (sgName 5) t_l_due_2) (ssRet (sxN vTuple (saCons (sxVar 4) saNil)))))
def m_l_due : Fs := bodyF 7 t_l_due
def t_l_right : Ss := (ssSeq (ssPar 3 4 (saCons (sxN vRepr (saCons (sxN vLst (saCons (sxVar 0) (saCons (sxVar 1) (saCons (sxVar 2) saNil)))) saNil)) (saCons (sxCall 3 m_l_due (saCons (sxVar 0) (saCons (sxVar 1) (saCons (sxVar 2) saNil)))) saNil))) (ssSeq (ssSet 5 (sxN vLst (saCons (sxCall 3 m_seen (saCons (sxVar 0) (saCons (sxVar 1) (saCons (sxVar 2) saNil)))) (saCons (sxCall 3 m_seen (saCons (sxVar 0) (saCons (sxVar 1) (saCons (sxVar 2) saNil)))) saNil)))) (ssRet (sxAnd (sx2 vEqS (sxN vRepr (saCons (sxVar 5) saNil)) (sxN vRepr (saCons (sxN vLst (saCons (sxVar 4) (saCons (sxVar 4) saNil))) saNil))) (sx2 vEqS (sxN vRepr (saCons (sxN vLst (saCons (sxVar 0) (saCons (sxVar 1) (saCons (sxVar 2) saNil)))) saNil)) (sxVar 3))))))
def m_l_right : Fs := bodyF 6 t_l_right
def t_l_alike_right_1 : Sx := (sxCall 3 m_seen (saCons (sxVar 0) (saCons (sx2 vMulT (sxN vTup (saCons (sxVar 3) saNil)) (sxN vLen (saCons (sxVar 0) saNil))) (saCons (sxVar 1) saNil))))
def t_l_alike_right_2 : Sx := (sxCall 3 m_l_due (saCons (sxVar 0) (saCons (sx2 vMulT (sxN vTup (saCons (sxVar 3) saNil)) (sxN vLen (saCons (sxVar 0) saNil))) (saCons (sxVar 1) saNil))))
def t_l_alike_right : Ss := (ssSeq (ssSet 2 (sxLc fzL (siSeq (sxN vTup (saCons (sxC (.str "late")) (saCons (sxC (.str "early")) (saCons (sxC (.str "guarded")) saNil))))) [3] (sgName 3) stYes t_l_alike_right_1)) (ssSeq (ssIf (stB (sx2 vNe (sx2 vItem (sxVar 2) (sxC (.int 1))) (sx2 vItem (sxVar 2) (sxC (.int 2))))) (ssRet (sxC (.bl false))) ssNil) (ssRet (sx2 vEqS (sxN vRepr (saCons (sxVar 2) saNil)) (sxN vRepr (saCons (sxLc fzL (siSeq (sxN vTup (saCons (sxC (.str "late")) (saCons (sxC (.str "early")) (saCons (sxC (.str "guarded")) saNil))))) [3] (sgName 3) stYes t_l_alike_right_2) saNil))))))
def m_l_alike_right : Fs := bodyF 4 t_l_alike_right
def t_l_hand_1 : Sx := (sxCall 3 m_seen (saCons (sxVar 0) (saCons (sxN vTup (saCons (sxVar 7) (saCons (sxC (.str "late")) saNil))) (saCons (sxN vTup (saCons (sxC (.int 0)) (saCons (sxC (.int 1)) (saCons (sxC (.int 1)) (saCons (sxC (.int 1)) (saCons (sxC (.int 0)) (saCons (sxC (.int 0)) saNil))))))) saNil))))
def t_l_hand_2 : Sx := (sxCall 3 m_seen (saCons (sxVar 3) (saCons (sxN vTup (saCons (sxC (.str "late")) (saCons (sxC (.str "late")) (saCons (sxVar 7) saNil)))) (saCons (sxN vTup (saCons (sxC (.int 1)) (saCons (sxC (.int 2)) (saCons (sxC (.int 2)) (saCons (sxC (.int 2)) (saCons (sxC (.int 1)) (saCons (sxC (.int 0)) (saCons (sxC (.int 0)) (saCons (sxC (.int 0)) saNil))))))))) saNil))))
def t_l_hand_3 : Sx := (sxCall 3 m_seen (saCons (sxVar 3) (saCons (sxN vTup (saCons (sxVar 7) (saCons (sxC (.str "early")) (saCons (sxC (.str "early")) saNil)))) (saCons (sxN vTup (saCons (sxC (.int 1)) (saCons (sxC (.int 2)) (saCons (sxC (.int 2)) (saCons (sxC (.int 1)) (saCons (sxC (.int 2)) (saCons (sxC (.int 0)) (saCons (sxC (.int 0)) (saCons (sxC (.int 0)) saNil))))))))) saNil))))
def t_l_hand : Ss := (ssSeq (ssSet 0 (sxN vTup (saCons (sxN vTup (saCons (sxN vTup (saCons (sxC (.str "look")) (saCons (sxC (.str "a")) saNil))) (saCons (sxN vTup (saCons (sxC (.str "look")) (saCons (sxC (.str "b")) saNil))) saNil))) (saCons (sxN vTup (saCons (sxN vTup (saCons (sxC (.str "mark")) (saCons (sxC (.str "a")) saNil))) (saCons (sxN vTup (saCons (sxC (.str "mark")) (saCons (sxC (.str "b")) saNil))) saNil))) saNil)))) (ssSeq (ssSet 1 (sxLc fzL (siSeq (sxN vTup (saCons (sxC (.str "late")) (saCons (sxC (.str "early")) (saCons (sxC (.str "guarded")) saNil))))) [7] (sgName 7) stYes t_l_hand_1)) (ssSeq (ssSet 2 (sxN vTup (saCons (sxN vTup (saCons (sxC (.int 0)) (saCons (sxC (.int 0)) (saCons (sxC .non) saNil)))) (saCons (sxN vTup (saCons (sxC (.int 0)) (saCons (sxC (.int 1)) (saCons (sxC .non) saNil)))) saNil)))) (ssSeq (ssIf (stB (sx2 vNe (sxVar 1) (sxN vLst (saCons (sxN vTup (saCons (sxN vTup (saCons (sxC (.int 0)) (saCons (sxC (.int 0)) (saCons (sxC .non) saNil)))) (saCons (sxN vTup (saCons (sxC (.int 0)) (saCons (sxC (.int 1)) (saCons (sxC (.int 1)) saNil)))) saNil))) (saCons (sxVar 2) (saCons (sxVar 2) saNil)))))) (ssRet (sxC (.bl false))) ssNil) (ssSeq (ssSet 3 (sxN vTup (saCons (sxN vTup (saCons (sxN vTup (saCons (sxC (.str "look")) (saCons (sxC (.str "a")) saNil))) (saCons (sxN vTup (saCons (sxC (.str "mark")) (saCons (sxC (.str "a")) saNil))) saNil))) (saCons (sxN vTup (saCons (sxN vTup (saCons (sxC (.str "mark")) (saCons (sxC (.str "a")) saNil))) saNil)) (saCons (sxN vTup (saCons (sxN vTup (saCons (sxC (.str "mark")) (saCons (sxC (.str "a")) saNil))) (saCons (sxN vTup (saCons (sxC (.str "look")) (saCons (sxC (.str "b")) saNil))) saNil))) saNil))))) (ssSeq (ssSet 1 (sxLc fzL (siSeq (sxN vTup (saCons (sxC (.str "late")) (saCons (sxC (.str "guarded")) saNil)))) [7] (sgName 7) stYes t_l_hand_2)) (ssSeq (ssIf (stB (sx2 vNe (sxVar 1) (sx2 vMulT (sxN vLst (saCons (sxN vTup (saCons (sxN vTup (saCons (sxC (.int 0)) (saCons (sxC (.int 0)) (saCons (sxC (.int 1)) saNil)))) (saCons (sxN vTup (saCons (sxC (.int 2)) (saCons (sxC (.int 1)) (saCons (sxC .non) saNil)))) saNil))) saNil)) (sxC (.int 2))))) (ssRet (sxC (.bl false))) ssNil) (ssSeq (ssSet 1 (sxLc fzL (siSeq (sxN vTup (saCons (sxC (.str "late")) (saCons (sxC (.str "early")) saNil)))) [7] (sgName 7) stYes t_l_hand_3)) (ssSeq (ssIf (stB (sx2 vNe (sxVar 1) (sx2 vMulT (sxN vLst (saCons (sxN vTup (saCons (sxN vTup (saCons (sxC (.int 0)) (saCons (sxC (.int 0)) (saCons (sxC (.int 2)) saNil)))) (saCons (sxN vTup (saCons (sxC (.int 2)) (saCons (sxC (.int 1)) (saCons (sxC .non) saNil)))) saNil))) saNil)) (sxC (.int 2))))) (ssRet (sxC (.bl false))) ssNil) (ssSeq (ssSet 4 (sxN vTup (saCons (sxN vTup (saCons (sxN vTup (saCons (sxC (.str "mark")) (saCons (sxC (.str "a")) saNil))) saNil)) (saCons (sxN vTup (saCons (sxN vTup (saCons (sxC (.str "mark")) (saCons (sxC (.str "a")) saNil))) (saCons (sxN vTup (saCons (sxC (.str "mark")) (saCons (sxC (.str "b")) saNil))) saNil))) saNil)))) (ssSeq (ssSet 5 (sxN vTup (saCons (sxN vTup (saCons (sxN vTup (saCons (sxC (.str "look")) (saCons (sxC (.str "a")) saNil))) saNil)) saNil))) (ssSeq (ssSet 6 (sxN vLst (saCons (sxCall 3 m_seen (saCons (sxVar 4) (saCons (sxN vTup (saCons (sxC (.str "guarded")) (saCons (sxC (.str "late")) saNil))) (saCons (sxN vTup (saCons (sxC (.int 1)) (saCons (sxC (.int 0)) (saCons (sxC (.int 0)) (saCons (sxC (.int 1)) (saCons (sxC (.int 1)) saNil)))))) saNil)))) (saCons (sxCall 3 m_seen (saCons (sxVar 5) (saCons (sxN vTup (saCons (sxC (.str "late")) saNil)) (saCons (sxN vTup (saCons (sxC (.int 0)) (saCons (sxC (.int 0)) saNil))) saNil)))) saNil)))) (ssRet (sx2 vEq (sxVar 6) (sxN vLst (saCons (sxN vTup saNil) (saCons (sxN vTup (saCons (sxN vTup (saCons (sxC (.int 0)) (saCons (sxC (.int 0)) (saCons (sxC .non) saNil)))) saNil)) saNil)))))))))))))))))
def m_l_hand : Fs := bodyF 8 t_l_hand
def t_law_1 : Ss := (ssSeq (ssSet 5 (sxCall 2 m_l_course (saCons (sxVar 2) (saCons (sxVar 3) saNil)))) (ssSeq (ssIf (stOr (stNot (stB (sxCall 3 m_l_right (saCons (sxVar 3) (saCons (sxCall 2 m_l_tiers (saCons (sxVar 2) (saCons (sxVar 3) saNil))) (saCons (sxVar 5) saNil)))))) (stNot (stB (sxCall 3 m_l_right (saCons (sxVar 3) (saCons (sxCall 2 m_l_tiers (saCons (sxVar 2) (saCons (sxVar 3) saNil))) (saCons (sxVar 5) saNil))))))) (ssRet (sxC (.bl false))) ssNil) (ssIf (stNot (stB (sxCall 2 m_l_alike_right (saCons (sxVar 3) (saCons (sxVar 5) saNil))))) (ssRet (sxC (.bl false))) ssNil)))
def t_law_2 : Ss := (ssSeq (ssSet 2 (sxCall 2 m_l_begun (saCons (sxVar 0) (saCons (sxVar 1) saNil)))) (ssSeq (ssSet 3 (sxCall 3 m_l_crew (saCons (sxVar 2) (saCons (sxC (.int 5)) (saCons (sxC (.int 5)) saNil))))) (ssFor (siRange1 (sxC (.int 5))) (sgName 4) t_law_1)))
def t_law : Ss := (ssSeq (ssFor (siRange1 (sx2 vAdd (sxC (.int 3)) (sxN vMin2 (saCons (sxN vLen (saCons (sxVar 0) saNil)) (saCons (sxC (.int 6)) saNil))))) (sgName 1) t_law_2) (ssRet (sxCall 0 m_l_hand saNil)))
def m_law : Fs := bodyF 6 t_law
end K05

end

section
namespace K05
open PySem PySem.Spec PyProof.Rows L2 MX
def top (i : Nat) : Stmt := PySem.Challenge.pw_mixedlevels_k05_whole_sights.main.body.getD i (.Pass ⟨0, 0, 0, 0⟩)
structure Txt (K : PySem.W.Frag) (mg : Str → Option Value) : Prop where
  f_all : mg "all" = none
  f_bool : mg "bool" = none
  f_enumerate : mg "enumerate" = none
  f_int : mg "int" = none
  f_isinstance : mg "isinstance" = none
  f_len : mg "len" = none
  f_max : mg "max" = none
  f_min : mg "min" = none
  f_range : mg "range" = none
  f_repr : mg "repr" = none
  f_str : mg "str" = none
  f_sum : mg "sum" = none
  f_tuple : mg "tuple" = none
  c_LATE : ∃ t, mg "LATE" = some (.str "late" t)
  c_LETTERS : ∃ t, mg "LETTERS" = some (.str "abcdefghijklmnopqrstuvwxyz" t)
  c_LEVELS : ∃ a, mg "LEVELS" = some (.ref a) ∧ ∀ H, SqT K H a [V.str "late", V.str "early", V.str "guarded"]
  c_LOOK : ∃ t, mg "LOOK" = some (.str "look" t)
  c_MARK : ∃ t, mg "MARK" = some (.str "mark" t)
  c_MOST_DEEDS : ∃ t, mg "MOST_DEEDS" = some (.int 5 t)
  c_MOST_LETTERS : ∃ t, mg "MOST_LETTERS" = some (.int 3 t)
  c_MOST_STEPS : ∃ t, mg "MOST_STEPS" = some (.int 5 t)
  g_is_whole : mg "is_whole" = some (.ref (He.ga K "is_whole"))
  F_is_whole : FunD K "is_whole" "is_whole" (defArgs (top 16)) (defBody (top 16)) (defScope (top 16)) [] [] (He.ga K "is_whole") (fdOf K (He.ga K "is_whole"))
  b_is_whole : Binds K (fdOf K (He.ga K "is_whole")) ["value", "least", "most"] []
  g_is_thing : mg "is_thing" = some (.ref (He.ga K "is_thing"))
  F_is_thing : FunD K "is_thing" "is_thing" (defArgs (top 17)) (defBody (top 17)) (defScope (top 17)) [] [] (He.ga K "is_thing") (fdOf K (He.ga K "is_thing"))
  b_is_thing : Binds K (fdOf K (He.ga K "is_thing")) ["value"] []
  g_is_step : mg "is_step" = some (.ref (He.ga K "is_step"))
  F_is_step : FunD K "is_step" "is_step" (defArgs (top 18)) (defBody (top 18)) (defScope (top 18)) [] [] (He.ga K "is_step") (fdOf K (He.ga K "is_step"))
  b_is_step : Binds K (fdOf K (He.ga K "is_step")) ["value"] []
  g_can_follow : mg "can_follow" = some (.ref (He.ga K "can_follow"))
  F_can_follow : FunD K "can_follow" "can_follow" (defArgs (top 19)) (defBody (top 19)) (defScope (top 19)) [] [] (He.ga K "can_follow") (fdOf K (He.ga K "can_follow"))
  b_can_follow : Binds K (fdOf K (He.ga K "can_follow")) ["steps", "value"] []
  g_wrong_step : mg "wrong_step" = some (.ref (He.ga K "wrong_step"))
  F_wrong_step : FunD K "wrong_step" "wrong_step" (defArgs (top 20)) (defBody (top 20)) (defScope (top 20)) [] [] (He.ga K "wrong_step") (fdOf K (He.ga K "wrong_step"))
  b_wrong_step : Binds K (fdOf K (He.ga K "wrong_step")) ["value"] []
  g_wrong_place : mg "wrong_place" = some (.ref (He.ga K "wrong_place"))
  F_wrong_place : FunD K "wrong_place" "wrong_place" (defArgs (top 21)) (defBody (top 21)) (defScope (top 21)) [] [] (He.ga K "wrong_place") (fdOf K (He.ga K "wrong_place"))
  b_wrong_place : Binds K (fdOf K (He.ga K "wrong_place")) ["value"] []
  g_need_lot : mg "need_lot" = some (.ref (He.ga K "need_lot"))
  F_need_lot : FunD K "need_lot" "need_lot" (defArgs (top 22)) (defBody (top 22)) (defScope (top 22)) [] [] (He.ga K "need_lot") (fdOf K (He.ga K "need_lot"))
  b_need_lot : Binds K (fdOf K (He.ga K "need_lot")) ["thing"] []
  g_are_levels : mg "are_levels" = some (.ref (He.ga K "are_levels"))
  F_are_levels : FunD K "are_levels" "are_levels" (defArgs (top 23)) (defBody (top 23)) (defScope (top 23)) [] [] (He.ga K "are_levels") (fdOf K (He.ga K "are_levels"))
  b_are_levels : Binds K (fdOf K (He.ga K "are_levels")) ["lot", "value"] []
  g_need_levels : mg "need_levels" = some (.ref (He.ga K "need_levels"))
  F_need_levels : FunD K "need_levels" "need_levels" (defArgs (top 24)) (defBody (top 24)) (defScope (top 24)) [] [] (He.ga K "need_levels") (fdOf K (He.ga K "need_levels"))
  b_need_levels : Binds K (fdOf K (He.ga K "need_levels")) ["lot", "levels"] []
  g_wrong_spot : mg "wrong_spot" = some (.ref (He.ga K "wrong_spot"))
  F_wrong_spot : FunD K "wrong_spot" "wrong_spot" (defArgs (top 26)) (defBody (top 26)) (defScope (top 26)) [] [] (He.ga K "wrong_spot") (fdOf K (He.ga K "wrong_spot"))
  b_wrong_spot : Binds K (fdOf K (He.ga K "wrong_spot")) ["lot", "value"] []
  g_need_run : mg "need_run" = some (.ref (He.ga K "need_run"))
  F_need_run : FunD K "need_run" "need_run" (defArgs (top 27)) (defBody (top 27)) (defScope (top 27)) [] [] (He.ga K "need_run") (fdOf K (He.ga K "need_run"))
  b_need_run : Binds K (fdOf K (He.ga K "need_run")) ["lot", "run"] []
  g_times_of : mg "times_of" = some (.ref (He.ga K "times_of"))
  F_times_of : FunD K "times_of" "times_of" (defArgs (top 28)) (defBody (top 28)) (defScope (top 28)) [] [] (He.ga K "times_of") (fdOf K (He.ga K "times_of"))
  b_times_of : Binds K (fdOf K (He.ga K "times_of")) ["lot", "run"] []
  g_need_all : mg "need_all" = some (.ref (He.ga K "need_all"))
  F_need_all : FunD K "need_all" "need_all" (defArgs (top 30)) (defBody (top 30)) (defScope (top 30)) [] [] (He.ga K "need_all") (fdOf K (He.ga K "need_all"))
  b_need_all : Binds K (fdOf K (He.ga K "need_all")) ["lot", "levels", "run"] []
  g_markers : mg "markers" = some (.ref (He.ga K "markers"))
  F_markers : FunD K "markers" "markers" (defArgs (top 31)) (defBody (top 31)) (defScope (top 31)) [] [] (He.ga K "markers") (fdOf K (He.ga K "markers"))
  b_markers : Binds K (fdOf K (He.ga K "markers")) ["lot", "deed", "thing"] []
  g_sight_of : mg "sight_of" = some (.ref (He.ga K "sight_of"))
  F_sight_of : FunD K "sight_of" "sight_of" (defArgs (top 32)) (defBody (top 32)) (defScope (top 32)) [] [] (He.ga K "sight_of") (fdOf K (He.ga K "sight_of"))
  b_sight_of : Binds K (fdOf K (He.ga K "sight_of")) ["lot", "levels", "times", "deed", "place"] []
  g_seen_in : mg "seen_in" = some (.ref (He.ga K "seen_in"))
  F_seen_in : FunD K "seen_in" "seen_in" (defArgs (top 33)) (defBody (top 33)) (defScope (top 33)) [] [] (He.ga K "seen_in") (fdOf K (He.ga K "seen_in"))
  b_seen_in : Binds K (fdOf K (He.ga K "seen_in")) ["lot", "levels", "times"] []
  g_seen : mg "seen" = some (.ref (He.ga K "seen"))
  F_seen : FunD K "seen" "seen" (defArgs (top 34)) (defBody (top 34)) (defScope (top 34)) [] [] (He.ga K "seen") (fdOf K (He.ga K "seen"))
  b_seen : Binds K (fdOf K (He.ga K "seen")) ["lot", "levels", "run"] []
  g_l_begun : mg "_law_begun" = some (.ref (He.ga K "_law_begun"))
  F_l_begun : FunD K "_law_begun" "_law_begun" (defArgs (top 36)) (defBody (top 36)) (defScope (top 36)) [] [] (He.ga K "_law_begun") (fdOf K (He.ga K "_law_begun"))
  b_l_begun : Binds K (fdOf K (He.ga K "_law_begun")) ["_law_script", "_law_k"] []
  g_l_draw : mg "_law_draw" = some (.ref (He.ga K "_law_draw"))
  F_l_draw : FunD K "_law_draw" "_law_draw" (defArgs (top 37)) (defBody (top 37)) (defScope (top 37)) [] [] (He.ga K "_law_draw") (fdOf K (He.ga K "_law_draw"))
  b_l_draw : Binds K (fdOf K (He.ga K "_law_draw")) ["_law_m", "_law_many"] []
  g_l_of : mg "_law_of" = some (.ref (He.ga K "_law_of"))
  F_l_of : FunD K "_law_of" "_law_of" (defArgs (top 38)) (defBody (top 38)) (defScope (top 38)) [] [] (He.ga K "_law_of") (fdOf K (He.ga K "_law_of"))
  b_l_of : Binds K (fdOf K (He.ga K "_law_of")) ["_law_m", "_law_some"] []
  g_l_deed : mg "_law_deed" = some (.ref (He.ga K "_law_deed"))
  F_l_deed : FunD K "_law_deed" "_law_deed" (defArgs (top 39)) (defBody (top 39)) (defScope (top 39)) [] [] (He.ga K "_law_deed") (fdOf K (He.ga K "_law_deed"))
  b_l_deed : Binds K (fdOf K (He.ga K "_law_deed")) ["_law_m", "_law_words", "_law_long"] []
  g_l_crew : mg "_law_crew" = some (.ref (He.ga K "_law_crew"))
  F_l_crew : FunD K "_law_crew" "_law_crew" (defArgs (top 40)) (defBody (top 40)) (defScope (top 40)) [] [] (He.ga K "_law_crew") (fdOf K (He.ga K "_law_crew"))
  b_l_crew : Binds K (fdOf K (He.ga K "_law_crew")) ["_law_m", "_law_many", "_law_long"] []
  g_l_tiers : mg "_law_tiers" = some (.ref (He.ga K "_law_tiers"))
  F_l_tiers : FunD K "_law_tiers" "_law_tiers" (defArgs (top 41)) (defBody (top 41)) (defScope (top 41)) [] [] (He.ga K "_law_tiers") (fdOf K (He.ga K "_law_tiers"))
  b_l_tiers : Binds K (fdOf K (He.ga K "_law_tiers")) ["_law_m", "_law_crew_here"] []
  g_l_course : mg "_law_course" = some (.ref (He.ga K "_law_course"))
  F_l_course : FunD K "_law_course" "_law_course" (defArgs (top 42)) (defBody (top 42)) (defScope (top 42)) [] [] (He.ga K "_law_course") (fdOf K (He.ga K "_law_course"))
  b_l_course : Binds K (fdOf K (He.ga K "_law_course")) ["_law_m", "_law_crew_here"] []
  g_l_clocks : mg "_law_clocks" = some (.ref (He.ga K "_law_clocks"))
  F_l_clocks : FunD K "_law_clocks" "_law_clocks" (defArgs (top 43)) (defBody (top 43)) (defScope (top 43)) [] [] (He.ga K "_law_clocks") (fdOf K (He.ga K "_law_clocks"))
  b_l_clocks : Binds K (fdOf K (He.ga K "_law_clocks")) ["_law_crew_here", "_law_course_here"] []
  g_l_marks : mg "_law_marks" = some (.ref (He.ga K "_law_marks"))
  F_l_marks : FunD K "_law_marks" "_law_marks" (defArgs (top 44)) (defBody (top 44)) (defScope (top 44)) [] [] (He.ga K "_law_marks") (fdOf K (He.ga K "_law_marks"))
  b_l_marks : Binds K (fdOf K (He.ga K "_law_marks")) ["_law_deed_here", "_law_word"] []
  g_l_sight : mg "_law_sight" = some (.ref (He.ga K "_law_sight"))
  F_l_sight : FunD K "_law_sight" "_law_sight" (defArgs (top 45)) (defBody (top 45)) (defScope (top 45)) [] [] (He.ga K "_law_sight") (fdOf K (He.ga K "_law_sight"))
  b_l_sight : Binds K (fdOf K (He.ga K "_law_sight")) ["_law_crew_here", "_law_tiers_here", "_law_clocks_here", "_law_k", "_law_place"] []
  g_l_looks : mg "_law_looks" = some (.ref (He.ga K "_law_looks"))
  F_l_looks : FunD K "_law_looks" "_law_looks" (defArgs (top 46)) (defBody (top 46)) (defScope (top 46)) [] [] (He.ga K "_law_looks") (fdOf K (He.ga K "_law_looks"))
  b_l_looks : Binds K (fdOf K (He.ga K "_law_looks")) ["_law_deed_here"] []
  g_l_due : mg "_law_due" = some (.ref (He.ga K "_law_due"))
  F_l_due : FunD K "_law_due" "_law_due" (defArgs (top 47)) (defBody (top 47)) (defScope (top 47)) [] [] (He.ga K "_law_due") (fdOf K (He.ga K "_law_due"))
  b_l_due : Binds K (fdOf K (He.ga K "_law_due")) ["_law_crew_here", "_law_tiers_here", "_law_course_here"] []
  g_l_right : mg "_law_right" = some (.ref (He.ga K "_law_right"))
  F_l_right : FunD K "_law_right" "_law_right" (defArgs (top 48)) (defBody (top 48)) (defScope (top 48)) [] [] (He.ga K "_law_right") (fdOf K (He.ga K "_law_right"))
  b_l_right : Binds K (fdOf K (He.ga K "_law_right")) ["_law_crew_here", "_law_tiers_here", "_law_course_here"] []
  g_l_alike_right : mg "_law_alike_right" = some (.ref (He.ga K "_law_alike_right"))
  F_l_alike_right : FunD K "_law_alike_right" "_law_alike_right" (defArgs (top 49)) (defBody (top 49)) (defScope (top 49)) [] [] (He.ga K "_law_alike_right") (fdOf K (He.ga K "_law_alike_right"))
  b_l_alike_right : Binds K (fdOf K (He.ga K "_law_alike_right")) ["_law_crew_here", "_law_course_here"] []
  g_l_hand : mg "_law_hand" = some (.ref (He.ga K "_law_hand"))
  F_l_hand : FunD K "_law_hand" "_law_hand" (defArgs (top 50)) (defBody (top 50)) (defScope (top 50)) [] [] (He.ga K "_law_hand") (fdOf K (He.ga K "_law_hand"))
  b_l_hand : Binds K (fdOf K (He.ga K "_law_hand")) [] []
  g_law : mg "law" = some (.ref (He.ga K "law"))
  F_law : FunD K "law" "law" (defArgs (top 51)) (defBody (top 51)) (defScope (top 51)) [] [] (He.ga K "law") (fdOf K (He.ga K "law"))
  b_law : Binds K (fdOf K (He.ga K "law")) ["_law_script"] []
theorem Txt.k_is_whole {K : PySem.W.Frag} {mg : Str → Option Value} (T : Txt K mg) : PySem.W.keepIn K (.ref (He.ga K "is_whole")) = true := T.F_is_whole.kp
theorem Txt.k_is_thing {K : PySem.W.Frag} {mg : Str → Option Value} (T : Txt K mg) : PySem.W.keepIn K (.ref (He.ga K "is_thing")) = true := T.F_is_thing.kp
theorem Txt.k_is_step {K : PySem.W.Frag} {mg : Str → Option Value} (T : Txt K mg) : PySem.W.keepIn K (.ref (He.ga K "is_step")) = true := T.F_is_step.kp
theorem Txt.k_can_follow {K : PySem.W.Frag} {mg : Str → Option Value} (T : Txt K mg) : PySem.W.keepIn K (.ref (He.ga K "can_follow")) = true := T.F_can_follow.kp
theorem Txt.k_wrong_step {K : PySem.W.Frag} {mg : Str → Option Value} (T : Txt K mg) : PySem.W.keepIn K (.ref (He.ga K "wrong_step")) = true := T.F_wrong_step.kp
theorem Txt.k_wrong_place {K : PySem.W.Frag} {mg : Str → Option Value} (T : Txt K mg) : PySem.W.keepIn K (.ref (He.ga K "wrong_place")) = true := T.F_wrong_place.kp
theorem Txt.k_need_lot {K : PySem.W.Frag} {mg : Str → Option Value} (T : Txt K mg) : PySem.W.keepIn K (.ref (He.ga K "need_lot")) = true := T.F_need_lot.kp
theorem Txt.k_are_levels {K : PySem.W.Frag} {mg : Str → Option Value} (T : Txt K mg) : PySem.W.keepIn K (.ref (He.ga K "are_levels")) = true := T.F_are_levels.kp
theorem Txt.k_need_levels {K : PySem.W.Frag} {mg : Str → Option Value} (T : Txt K mg) : PySem.W.keepIn K (.ref (He.ga K "need_levels")) = true := T.F_need_levels.kp
theorem Txt.k_wrong_spot {K : PySem.W.Frag} {mg : Str → Option Value} (T : Txt K mg) : PySem.W.keepIn K (.ref (He.ga K "wrong_spot")) = true := T.F_wrong_spot.kp
theorem Txt.k_need_run {K : PySem.W.Frag} {mg : Str → Option Value} (T : Txt K mg) : PySem.W.keepIn K (.ref (He.ga K "need_run")) = true := T.F_need_run.kp
theorem Txt.k_times_of {K : PySem.W.Frag} {mg : Str → Option Value} (T : Txt K mg) : PySem.W.keepIn K (.ref (He.ga K "times_of")) = true := T.F_times_of.kp
theorem Txt.k_need_all {K : PySem.W.Frag} {mg : Str → Option Value} (T : Txt K mg) : PySem.W.keepIn K (.ref (He.ga K "need_all")) = true := T.F_need_all.kp
theorem Txt.k_markers {K : PySem.W.Frag} {mg : Str → Option Value} (T : Txt K mg) : PySem.W.keepIn K (.ref (He.ga K "markers")) = true := T.F_markers.kp
theorem Txt.k_sight_of {K : PySem.W.Frag} {mg : Str → Option Value} (T : Txt K mg) : PySem.W.keepIn K (.ref (He.ga K "sight_of")) = true := T.F_sight_of.kp
theorem Txt.k_seen_in {K : PySem.W.Frag} {mg : Str → Option Value} (T : Txt K mg) : PySem.W.keepIn K (.ref (He.ga K "seen_in")) = true := T.F_seen_in.kp
theorem Txt.k_seen {K : PySem.W.Frag} {mg : Str → Option Value} (T : Txt K mg) : PySem.W.keepIn K (.ref (He.ga K "seen")) = true := T.F_seen.kp
theorem Txt.k_l_begun {K : PySem.W.Frag} {mg : Str → Option Value} (T : Txt K mg) : PySem.W.keepIn K (.ref (He.ga K "_law_begun")) = true := T.F_l_begun.kp
theorem Txt.k_l_draw {K : PySem.W.Frag} {mg : Str → Option Value} (T : Txt K mg) : PySem.W.keepIn K (.ref (He.ga K "_law_draw")) = true := T.F_l_draw.kp
theorem Txt.k_l_of {K : PySem.W.Frag} {mg : Str → Option Value} (T : Txt K mg) : PySem.W.keepIn K (.ref (He.ga K "_law_of")) = true := T.F_l_of.kp
theorem Txt.k_l_deed {K : PySem.W.Frag} {mg : Str → Option Value} (T : Txt K mg) : PySem.W.keepIn K (.ref (He.ga K "_law_deed")) = true := T.F_l_deed.kp
theorem Txt.k_l_crew {K : PySem.W.Frag} {mg : Str → Option Value} (T : Txt K mg) : PySem.W.keepIn K (.ref (He.ga K "_law_crew")) = true := T.F_l_crew.kp
theorem Txt.k_l_tiers {K : PySem.W.Frag} {mg : Str → Option Value} (T : Txt K mg) : PySem.W.keepIn K (.ref (He.ga K "_law_tiers")) = true := T.F_l_tiers.kp
theorem Txt.k_l_course {K : PySem.W.Frag} {mg : Str → Option Value} (T : Txt K mg) : PySem.W.keepIn K (.ref (He.ga K "_law_course")) = true := T.F_l_course.kp
theorem Txt.k_l_clocks {K : PySem.W.Frag} {mg : Str → Option Value} (T : Txt K mg) : PySem.W.keepIn K (.ref (He.ga K "_law_clocks")) = true := T.F_l_clocks.kp
theorem Txt.k_l_marks {K : PySem.W.Frag} {mg : Str → Option Value} (T : Txt K mg) : PySem.W.keepIn K (.ref (He.ga K "_law_marks")) = true := T.F_l_marks.kp
theorem Txt.k_l_sight {K : PySem.W.Frag} {mg : Str → Option Value} (T : Txt K mg) : PySem.W.keepIn K (.ref (He.ga K "_law_sight")) = true := T.F_l_sight.kp
theorem Txt.k_l_looks {K : PySem.W.Frag} {mg : Str → Option Value} (T : Txt K mg) : PySem.W.keepIn K (.ref (He.ga K "_law_looks")) = true := T.F_l_looks.kp
theorem Txt.k_l_due {K : PySem.W.Frag} {mg : Str → Option Value} (T : Txt K mg) : PySem.W.keepIn K (.ref (He.ga K "_law_due")) = true := T.F_l_due.kp
theorem Txt.k_l_right {K : PySem.W.Frag} {mg : Str → Option Value} (T : Txt K mg) : PySem.W.keepIn K (.ref (He.ga K "_law_right")) = true := T.F_l_right.kp
theorem Txt.k_l_alike_right {K : PySem.W.Frag} {mg : Str → Option Value} (T : Txt K mg) : PySem.W.keepIn K (.ref (He.ga K "_law_alike_right")) = true := T.F_l_alike_right.kp
theorem Txt.k_l_hand {K : PySem.W.Frag} {mg : Str → Option Value} (T : Txt K mg) : PySem.W.keepIn K (.ref (He.ga K "_law_hand")) = true := T.F_l_hand.kp
theorem Txt.k_law {K : PySem.W.Frag} {mg : Str → Option Value} (T : Txt K mg) : PySem.W.keepIn K (.ref (He.ga K "law")) = true := T.F_law.kp
variable {P : Program} {w : World} {K : PySem.W.Frag} {mg : Str → Option Value} {base : Heap}
/-! is_whole -/
theorem sc_is_whole : FnScope ["value", "least", "most"] ["value", "least", "most"] (defScope (top 16)) := ⟨rfl, rfl, rfl, by decide +kernel, rfl, by decide +kernel, by decide +kernel⟩
theorem raw_is_whole (T : Txt K mg) : FnG P w K mg base 1 (He.ga K "is_whole") (fdOf K (He.ga K "is_whole")) ["value", "least", "most"] (bodyF 3 t_is_whole) :=
  fn_g T.F_is_whole sc_is_whole fun cdv A outer s H E hr hgd => (ss_one (ss_ret (se_and (se_isinst (se_var 0) rfl T.f_isinstance rfl T.f_int (by decide +kernel)) (se_and (se_not (se_isinst (se_var 0) rfl T.f_isinstance rfl T.f_bool (by decide +kernel))) (se_one (se_chain op_le' op_le' (se_var 1) (se_var 0) (se_var 2)))))))
theorem ok_is_whole (T : Txt K mg) : FnG P w K mg base 1 (He.ga K "is_whole") (fdOf K (He.ga K "is_whole")) ["value", "least", "most"] m_is_whole := raw_is_whole T
/-! is_thing -/
theorem sc_is_thing : FnScope ["value", "letter"] ["value"] (defScope (top 17)) := ⟨rfl, rfl, rfl, by decide +kernel, rfl, by decide +kernel, by decide +kernel⟩
theorem raw_is_thing (T : Txt K mg) : FnG P w K mg base 1 (He.ga K "is_thing") (fdOf K (He.ga K "is_thing")) ["value"] (bodyF 2 t_is_thing) :=
  fn_g T.F_is_thing sc_is_thing fun cdv A outer s H E hr hgd => (ss_cons (ss_if (PW.pt (st_or (st_not (st_val (se_isinst (se_var 0) rfl T.f_isinstance rfl T.f_str (by decide +kernel)))) (st_or1 (st_not (st_chain op_le' op_le' se_int (se_callB (cl_len) rfl T.f_len (by decide +kernel) (sa_cons (se_var 0) sa_nil)) (se_gint rfl T.c_MOST_LETTERS)))))) (ss_one (ss_ret se_bl)) ss_nil) (ss_one (ss_ret (se_callB (cl_all rfl) rfl T.f_all (by decide +kernel) (sa_cons (se_lc [("letter", 1)] fin_fz rfl sc_is_thing.nd (si_seq (se_var 0)) (blkOk_by (N := ["value", "letter"]) (sc := defScope (top 17)) (by decide +kernel)) (fun _ _ _ _ _ => (sg_name 1 sc_is_thing.nd)) (fun _ _ _ _ _ => pts_yes) (fun _ _ _ _ _ => pe_0 (se_cmp (op_in' (hu65 hr)) (se_var 1) (se_gstr rfl T.c_LETTERS)))) sa_nil)))))
theorem ok_is_thing (T : Txt K mg) : FnG P w K mg base 1 (He.ga K "is_thing") (fdOf K (He.ga K "is_thing")) ["value"] m_is_thing := raw_is_thing T
/-! is_step -/
theorem sc_is_step : FnScope ["value"] ["value"] (defScope (top 18)) := ⟨rfl, rfl, rfl, by decide +kernel, rfl, by decide +kernel, by decide +kernel⟩
theorem raw_is_step (T : Txt K mg) : FnG P w K mg base 2 (He.ga K "is_step") (fdOf K (He.ga K "is_step")) ["value"] (bodyF 1 t_is_step) :=
  fn_g T.F_is_step sc_is_step fun cdv A outer s H E hr hgd => (ss_cons (ss_if (PW.pt (st_or (st_not (st_val (se_isinst (se_var 0) rfl T.f_isinstance rfl T.f_tuple (by decide +kernel)))) (st_or (st_cmp (op_ne' (hu64 hr)) (se_callB (cl_len) rfl T.f_len (by decide +kernel) (sa_cons (se_var 0) sa_nil)) se_int) (st_or1 (st_not (st_val (se_isinst (se_ix ix_item (se_var 0) se_int) rfl T.f_isinstance rfl T.f_str (by decide +kernel)))))))) (ss_one (ss_ret se_bl)) ss_nil) (ss_one (ss_ret (se_and (se_cmp (op_in' (hu65 hr)) (se_ix ix_item (se_var 0) se_int) (se_tup (sa_cons (se_gstr rfl T.c_LOOK) (sa_cons (se_gstr rfl T.c_MARK) sa_nil)))) (se_one (se_call (ok_is_thing T) (hr.mono (by decide)) hgd rfl T.g_is_thing T.k_is_thing T.b_is_thing (sa_cons (se_ix ix_item (se_var 0) se_int) sa_nil)))))))
theorem ok_is_step (T : Txt K mg) : FnG P w K mg base 2 (He.ga K "is_step") (fdOf K (He.ga K "is_step")) ["value"] m_is_step := raw_is_step T
/-! can_follow -/
theorem sc_can_follow : FnScope ["steps", "value"] ["steps", "value"] (defScope (top 19)) := ⟨rfl, rfl, rfl, by decide +kernel, rfl, by decide +kernel, by decide +kernel⟩
theorem raw_can_follow (T : Txt K mg) : FnG P w K mg base 3 (He.ga K "can_follow") (fdOf K (He.ga K "can_follow")) ["steps", "value"] (bodyF 2 t_can_follow) :=
  fn_g T.F_can_follow sc_can_follow fun cdv A outer s H E hr hgd => (ss_cons (ss_if (PW.pt (st_or (st_not (st_val (se_call (ok_is_step T) (hr.mono (by decide)) hgd rfl T.g_is_step T.k_is_step T.b_is_step (sa_cons (se_var 1) sa_nil)))) (st_or1 (st_cmp (op_in' (hu65 hr)) (se_var 1) (se_var 0))))) (ss_one (ss_ret se_bl)) ss_nil) (ss_one (ss_ret (se_or (se_cmp (op_eq' (hu64 hr)) (se_ix ix_item (se_var 1) se_int) (se_gstr rfl T.c_MARK)) (se_one (se_cmp (op_notIn' (hu65 hr)) (se_tup (sa_cons (se_gstr rfl T.c_MARK) (sa_cons (se_ix ix_item (se_var 1) se_int) sa_nil))) (se_var 0)))))))
theorem ok_can_follow (T : Txt K mg) : FnG P w K mg base 3 (He.ga K "can_follow") (fdOf K (He.ga K "can_follow")) ["steps", "value"] m_can_follow := raw_can_follow T
/-! wrong_step -/
theorem sc_wrong_step : FnScope ["value", "place", "step"] ["value"] (defScope (top 20)) := ⟨rfl, rfl, rfl, by decide +kernel, rfl, by decide +kernel, by decide +kernel⟩
theorem raw_wrong_step (T : Txt K mg) : FnG P w K mg base 4 (He.ga K "wrong_step") (fdOf K (He.ga K "wrong_step")) ["value"] (bodyF 3 t_wrong_step) :=
  fn_g T.F_wrong_step sc_wrong_step fun cdv A outer s H E hr hgd => (ss_cons (ss_for passB rfl (si_enum rfl T.f_enumerate (se_var 0)) (sg_tup rfl (sgs_cons (sg_name 1 sc_wrong_step.nd) (sgs_cons (sg_name 2 sc_wrong_step.nd) sgs_nil))) (ss_one (ss_if (st_not (st_val (se_call (ok_can_follow T) (hr.mono (by decide)) hgd rfl T.g_can_follow T.k_can_follow T.b_can_follow (sa_cons (se_sl sl_any (se_var 0) so_no (so_part (se_var 1))) (sa_cons (se_var 2) sa_nil))))) (ss_one (ss_ret (se_var 1))) ss_nil))) (ss_one (ss_ret se_non)))
theorem ok_wrong_step (T : Txt K mg) : FnG P w K mg base 4 (He.ga K "wrong_step") (fdOf K (He.ga K "wrong_step")) ["value"] m_wrong_step := raw_wrong_step T
/-! wrong_place -/
theorem sc_wrong_place : FnScope ["value", "number", "deed", "place"] ["value"] (defScope (top 21)) := ⟨rfl, rfl, rfl, by decide +kernel, rfl, by decide +kernel, by decide +kernel⟩
theorem raw_wrong_place (T : Txt K mg) : FnG P w K mg base 5 (He.ga K "wrong_place") (fdOf K (He.ga K "wrong_place")) ["value"] (bodyF 4 t_wrong_place) :=
  fn_g T.F_wrong_place sc_wrong_place fun cdv A outer s H E hr hgd => (ss_cons (ss_if (PW.pt (st_or (st_not (st_val (se_isinst (se_var 0) rfl T.f_isinstance rfl T.f_tuple (by decide +kernel)))) (st_or1 (st_not (st_chain op_le' op_le' se_int (se_callB (cl_len) rfl T.f_len (by decide +kernel) (sa_cons (se_var 0) sa_nil)) (se_gint rfl T.c_MOST_DEEDS)))))) (ss_one (ss_ret (se_tup sa_nil))) ss_nil) (ss_cons (ss_for passB rfl (si_enum rfl T.f_enumerate (se_var 0)) (sg_tup rfl (sgs_cons (sg_name 1 sc_wrong_place.nd) (sgs_cons (sg_name 2 sc_wrong_place.nd) sgs_nil))) (ss_cons (ss_if (PW.pt (st_or (st_not (st_val (se_isinst (se_var 2) rfl T.f_isinstance rfl T.f_tuple (by decide +kernel)))) (st_or1 (st_not (st_chain op_le' op_le' se_int (se_callB (cl_len) rfl T.f_len (by decide +kernel) (sa_cons (se_var 2) sa_nil)) (se_gint rfl T.c_MOST_STEPS)))))) (ss_one (ss_ret (se_tup (sa_cons (se_var 1) sa_nil)))) ss_nil) (ss_cons (ss_set 3 sc_wrong_place.nd (se_call (ok_wrong_step T) (hr.mono (by decide)) hgd rfl T.g_wrong_step T.k_wrong_step T.b_wrong_step (sa_cons (se_var 2) sa_nil))) (ss_one (ss_if (st_cmp op_notN' (se_var 3) se_non) (ss_one (ss_ret (se_tup (sa_cons (se_var 1) (sa_cons (se_var 3) sa_nil))))) ss_nil))))) (ss_one (ss_ret se_non))))
theorem ok_wrong_place (T : Txt K mg) : FnG P w K mg base 5 (He.ga K "wrong_place") (fdOf K (He.ga K "wrong_place")) ["value"] m_wrong_place := raw_wrong_place T
/-! need_lot -/
theorem sc_need_lot : FnScope ["thing", "place"] ["thing"] (defScope (top 22)) := ⟨rfl, rfl, rfl, by decide +kernel, rfl, by decide +kernel, by decide +kernel⟩
theorem raw_need_lot (T : Txt K mg) : FnG P w K mg base 6 (He.ga K "need_lot") (fdOf K (He.ga K "need_lot")) ["thing"] (bodyF 2 t_need_lot) :=
  fn_g T.F_need_lot sc_need_lot fun cdv A outer s H E hr hgd => (ss_cons (ss_set 1 sc_need_lot.nd (se_call (ok_wrong_place T) (hr.mono (by decide)) hgd rfl T.g_wrong_place T.k_wrong_place T.b_wrong_place (sa_cons (se_var 0) sa_nil))) (ss_cons (ss_if (st_cmp op_notN' (se_var 1) se_non) (ss_one ss_no) ss_nil) (ss_one (ss_ret (se_var 0)))))
theorem ok_need_lot (T : Txt K mg) : FnG P w K mg base 6 (He.ga K "need_lot") (fdOf K (He.ga K "need_lot")) ["thing"] m_need_lot := raw_need_lot T
/-! are_levels -/
theorem sc_are_levels : FnScope ["lot", "value", "level"] ["lot", "value"] (defScope (top 23)) := ⟨rfl, rfl, rfl, by decide +kernel, rfl, by decide +kernel, by decide +kernel⟩
theorem raw_are_levels (T : Txt K mg) : FnG P w K mg base 1 (He.ga K "are_levels") (fdOf K (He.ga K "are_levels")) ["lot", "value"] (bodyF 3 t_are_levels) :=
  fn_g T.F_are_levels sc_are_levels fun cdv A outer s H E hr hgd => (ss_cons (ss_if (PW.pt (st_or (st_not (st_val (se_isinst (se_var 1) rfl T.f_isinstance rfl T.f_tuple (by decide +kernel)))) (st_or1 (st_cmp (op_ne' (hu64 hr)) (se_callB (cl_len) rfl T.f_len (by decide +kernel) (sa_cons (se_var 1) sa_nil)) (se_callB (cl_len) rfl T.f_len (by decide +kernel) (sa_cons (se_var 0) sa_nil)))))) (ss_one (ss_ret se_bl)) ss_nil) (ss_one (ss_ret (se_callB (cl_all rfl) rfl T.f_all (by decide +kernel) (sa_cons (se_lc [("level", 2)] fin_fz rfl sc_are_levels.nd (si_seq (se_var 1)) (blkOk_by (N := ["lot", "value", "level"]) (sc := defScope (top 23)) (by decide +kernel)) (fun _ _ _ _ _ => (sg_name 2 sc_are_levels.nd)) (fun _ _ _ _ _ => pts_yes) (fun _ _ _ _ _ => pe_0 (se_and (se_isinst (se_var 2) rfl T.f_isinstance rfl T.f_str (by decide +kernel)) (se_one (se_cmp (op_in' (hu65 hr)) (se_var 2) (se_gtup rfl T.c_LEVELS)))))) sa_nil)))))
theorem ok_are_levels (T : Txt K mg) : FnG P w K mg base 1 (He.ga K "are_levels") (fdOf K (He.ga K "are_levels")) ["lot", "value"] m_are_levels := raw_are_levels T
/-! need_levels -/
theorem sc_need_levels : FnScope ["lot", "levels"] ["lot", "levels"] (defScope (top 24)) := ⟨rfl, rfl, rfl, by decide +kernel, rfl, by decide +kernel, by decide +kernel⟩
theorem raw_need_levels (T : Txt K mg) : FnG P w K mg base 7 (He.ga K "need_levels") (fdOf K (He.ga K "need_levels")) ["lot", "levels"] (bodyF 2 t_need_levels) :=
  fn_g T.F_need_levels sc_need_levels fun cdv A outer s H E hr hgd => (ss_cons (ss_expr (se_call (ok_need_lot T) (hr.mono (by decide)) hgd rfl T.g_need_lot T.k_need_lot T.b_need_lot (sa_cons (se_var 0) sa_nil))) (ss_cons (ss_if (st_not (st_val (se_call (ok_are_levels T) (hr.mono (by decide)) hgd rfl T.g_are_levels T.k_are_levels T.b_are_levels (sa_cons (se_var 0) (sa_cons (se_var 1) sa_nil))))) (ss_one ss_no) ss_nil) (ss_one (ss_ret (se_var 1)))))
theorem ok_need_levels (T : Txt K mg) : FnG P w K mg base 7 (He.ga K "need_levels") (fdOf K (He.ga K "need_levels")) ["lot", "levels"] m_need_levels := raw_need_levels T
/-! wrong_spot -/
theorem sc_wrong_spot : FnScope ["lot", "value", "left", "place", "number", "deed"] ["lot", "value"] (defScope (top 26)) := ⟨rfl, rfl, rfl, by decide +kernel, rfl, by decide +kernel, by decide +kernel⟩
theorem raw_wrong_spot (T : Txt K mg) : FnG P w K mg base 2 (He.ga K "wrong_spot") (fdOf K (He.ga K "wrong_spot")) ["lot", "value"] (bodyF 6 t_wrong_spot) :=
  fn_g T.F_wrong_spot sc_wrong_spot fun cdv A outer s H E hr hgd => (ss_cons (ss_setLc 2 [("deed", 5)] fin_nw rfl sc_wrong_spot.nd (si_seq (se_var 0)) (blkOk_by (N := ["lot", "value", "left", "place", "number", "deed"]) (sc := defScope (top 26)) (by decide +kernel)) (fun _ _ _ _ _ => (sg_name 5 sc_wrong_spot.nd)) (fun _ _ _ _ _ => pts_yes) (fun _ _ _ _ _ => pe_0 (se_bin op_add' (se_callB (cl_len) rfl T.f_len (by decide +kernel) (sa_cons (se_var 5) sa_nil)) se_int))) (ss_cons (ss_for passB rfl (si_enum rfl T.f_enumerate (se_var 1)) (sg_tup rfl (sgs_cons (sg_name 3 sc_wrong_spot.nd) (sgs_cons (sg_name 4 sc_wrong_spot.nd) sgs_nil))) (ss_cons (ss_if (PW.pt (st_or (st_not (st_val (se_call (ok_is_whole T) (hr.mono (by decide)) hgd rfl T.g_is_whole T.k_is_whole T.b_is_whole (sa_cons (se_var 4) (sa_cons se_int (sa_cons (se_bin op_sub' (se_callB (cl_len) rfl T.f_len (by decide +kernel) (sa_cons (se_var 0) sa_nil)) se_int) sa_nil)))))) (st_or1 (st_cmp (op_eq' (hu64 hr)) (se_ix ix_item (se_var 2) (se_var 4)) se_int)))) (ss_one (ss_ret (se_var 3))) ss_nil) (ss_one (ss_augsub (hu1 hr) ip_sub' (se_var 2) (se_var 4) se_int)))) (ss_one (ss_ret se_non))))
theorem ok_wrong_spot (T : Txt K mg) : FnG P w K mg base 2 (He.ga K "wrong_spot") (fdOf K (He.ga K "wrong_spot")) ["lot", "value"] m_wrong_spot := raw_wrong_spot T
/-! need_run -/
theorem sc_need_run : FnScope ["lot", "run", "place", "deed"] ["lot", "run"] (defScope (top 27)) := ⟨rfl, rfl, rfl, by decide +kernel, rfl, by decide +kernel, by decide +kernel⟩
theorem raw_need_run (T : Txt K mg) : FnG P w K mg base 7 (He.ga K "need_run") (fdOf K (He.ga K "need_run")) ["lot", "run"] (bodyF 4 t_need_run) :=
  fn_g T.F_need_run sc_need_run fun cdv A outer s H E hr hgd => (ss_cons (ss_expr (se_call (ok_need_lot T) (hr.mono (by decide)) hgd rfl T.g_need_lot T.k_need_lot T.b_need_lot (sa_cons (se_var 0) sa_nil))) (ss_cons (ss_if (PW.pt (st_or (st_not (st_val (se_isinst (se_var 1) rfl T.f_isinstance rfl T.f_tuple (by decide +kernel)))) (st_or1 (st_cmp (op_ne' (hu64 hr)) (se_callB (cl_len) rfl T.f_len (by decide +kernel) (sa_cons (se_var 1) sa_nil)) (se_callB (cl_sum rfl) rfl T.f_sum (by decide +kernel) (sa_cons (se_lc [("deed", 3)] fin_fz rfl sc_need_run.nd (si_seq (se_var 0)) (blkOk_by (N := ["lot", "run", "place", "deed"]) (sc := defScope (top 27)) (by decide +kernel)) (fun _ _ _ _ _ => (sg_name 3 sc_need_run.nd)) (fun _ _ _ _ _ => pts_yes) (fun _ _ _ _ _ => pe_0 (se_bin op_add' (se_callB (cl_len) rfl T.f_len (by decide +kernel) (sa_cons (se_var 3) sa_nil)) se_int))) sa_nil)))))) (ss_one ss_no) ss_nil) (ss_cons (ss_set 2 sc_need_run.nd (se_call (ok_wrong_spot T) (hr.mono (by decide)) hgd rfl T.g_wrong_spot T.k_wrong_spot T.b_wrong_spot (sa_cons (se_var 0) (sa_cons (se_var 1) sa_nil)))) (ss_cons (ss_if (st_cmp op_notN' (se_var 2) se_non) (ss_one ss_no) ss_nil) (ss_one (ss_ret (se_var 1)))))))
theorem ok_need_run (T : Txt K mg) : FnG P w K mg base 7 (He.ga K "need_run") (fdOf K (He.ga K "need_run")) ["lot", "run"] m_need_run := raw_need_run T
/-! times_of -/
theorem sc_times_of : FnScope ["lot", "run", "deed", "place", "number"] ["lot", "run"] (defScope (top 28)) := ⟨rfl, rfl, rfl, by decide +kernel, rfl, by decide +kernel, by decide +kernel⟩
theorem raw_times_of (T : Txt K mg) : FnG P w K mg base 1 (He.ga K "times_of") (fdOf K (He.ga K "times_of")) ["lot", "run"] (bodyF 5 t_times_of) :=
  fn_g T.F_times_of sc_times_of fun cdv A outer s H E hr hgd => (ss_one (ss_ret (se_lc [("deed", 2)] fin_fz rfl sc_times_of.nd (si_range1 rfl T.f_range (se_callB (cl_len) rfl T.f_len (by decide +kernel) (sa_cons (se_var 0) sa_nil))) (blkOk_by (N := ["lot", "run", "deed", "place", "number"]) (sc := defScope (top 28)) (by decide +kernel)) (fun _ _ _ _ _ => (sg_name 2 sc_times_of.nd)) (fun _ _ _ _ _ => pts_yes) (fun _ _ _ _ _ => pe_0 (se_lc [("place", 3), ("number", 4)] fin_fz rfl sc_times_of.nd (si_enum rfl T.f_enumerate (se_var 1)) (blkOk_by (by kernel_rfl)) (fun _ _ _ _ _ => (sg_tup rfl (sgs_cons (sg_name 3 sc_times_of.nd) (sgs_cons (sg_name 4 sc_times_of.nd) sgs_nil)))) (fun _ _ _ _ _ => (pts_0 (st_cmp (op_eq' (hu64 hr)) (se_var 4) (se_var 2)))) (fun _ _ _ _ _ => pe_0 (se_var 3)))))))
theorem ok_times_of (T : Txt K mg) : FnG P w K mg base 1 (He.ga K "times_of") (fdOf K (He.ga K "times_of")) ["lot", "run"] m_times_of := raw_times_of T
/-! need_all -/
theorem sc_need_all : FnScope ["lot", "levels", "run"] ["lot", "levels", "run"] (defScope (top 30)) := ⟨rfl, rfl, rfl, by decide +kernel, rfl, by decide +kernel, by decide +kernel⟩
theorem raw_need_all (T : Txt K mg) : FnG P w K mg base 8 (He.ga K "need_all") (fdOf K (He.ga K "need_all")) ["lot", "levels", "run"] (bodyF 3 t_need_all) :=
  fn_g T.F_need_all sc_need_all fun cdv A outer s H E hr hgd => (ss_cons (ss_expr (se_call (ok_need_levels T) (hr.mono (by decide)) hgd rfl T.g_need_levels T.k_need_levels T.b_need_levels (sa_cons (se_var 0) (sa_cons (se_var 1) sa_nil)))) (ss_one (ss_expr (se_call (ok_need_run T) (hr.mono (by decide)) hgd rfl T.g_need_run T.k_need_run T.b_need_run (sa_cons (se_var 0) (sa_cons (se_var 2) sa_nil))))))
theorem ok_need_all (T : Txt K mg) : FnG P w K mg base 8 (He.ga K "need_all") (fdOf K (He.ga K "need_all")) ["lot", "levels", "run"] m_need_all := raw_need_all T
/-! markers -/
theorem sc_markers : FnScope ["lot", "deed", "thing", "number", "other"] ["lot", "deed", "thing"] (defScope (top 31)) := ⟨rfl, rfl, rfl, by decide +kernel, rfl, by decide +kernel, by decide +kernel⟩
theorem raw_markers (T : Txt K mg) : FnG P w K mg base 1 (He.ga K "markers") (fdOf K (He.ga K "markers")) ["lot", "deed", "thing"] (bodyF 5 t_markers) :=
  fn_g T.F_markers sc_markers fun cdv A outer s H E hr hgd => (ss_one (ss_ret (se_lc [("number", 3), ("other", 4)] fin_fz rfl sc_markers.nd (si_enum rfl T.f_enumerate (se_var 0)) (blkOk_by (N := ["lot", "deed", "thing", "number", "other"]) (sc := defScope (top 31)) (by decide +kernel)) (fun _ _ _ _ _ => (sg_tup rfl (sgs_cons (sg_name 3 sc_markers.nd) (sgs_cons (sg_name 4 sc_markers.nd) sgs_nil)))) (fun _ _ _ _ _ => (pts_0 (PW.pt (st_and (st_cmp (op_ne' (hu64 hr)) (se_var 3) (se_var 1)) (st_and1 (st_cmp (op_in' (hu65 hr)) (se_tup (sa_cons (se_gstr rfl T.c_MARK) (sa_cons (se_var 2) sa_nil))) (se_var 4))))))) (fun _ _ _ _ _ => pe_0 (se_var 3)))))
theorem ok_markers (T : Txt K mg) : FnG P w K mg base 1 (He.ga K "markers") (fdOf K (He.ga K "markers")) ["lot", "deed", "thing"] m_markers := raw_markers T
/-! sight_of -/
theorem sc_sight_of : FnScope ["lot", "levels", "times", "deed", "place", "moment", "ends", "one"] ["lot", "levels", "times", "deed", "place"] (defScope (top 32)) := ⟨rfl, rfl, rfl, by decide +kernel, rfl, by decide +kernel, by decide +kernel⟩
theorem raw_sight_of (T : Txt K mg) : FnG P w K mg base 2 (He.ga K "sight_of") (fdOf K (He.ga K "sight_of")) ["lot", "levels", "times", "deed", "place"] (bodyF 8 t_sight_of) :=
  fn_g T.F_sight_of sc_sight_of fun cdv A outer s H E hr hgd => (ss_cons (ss_set 5 sc_sight_of.nd (se_ix ix_item (se_ix ix_item (se_var 2) (se_var 3)) (se_if (st_cmp (op_eq' (hu64 hr)) (se_ix ix_item (se_var 1) (se_var 3)) (se_gstr rfl T.c_LATE)) (se_var 4) se_int))) (ss_cons (ss_setLc 6 [("one", 7)] fin_fz rfl sc_sight_of.nd (si_seq (se_call (ok_markers T) (hr.mono (by decide)) hgd rfl T.g_markers T.k_markers T.b_markers (sa_cons (se_var 0) (sa_cons (se_var 3) (sa_cons (se_ix ix_item (se_ix ix_item (se_ix ix_item (se_var 0) (se_var 3)) (se_var 4)) se_int) sa_nil))))) (blkOk_by (N := ["lot", "levels", "times", "deed", "place", "moment", "ends", "one"]) (sc := defScope (top 32)) (by decide +kernel)) (fun _ _ _ _ _ => (sg_name 7 sc_sight_of.nd)) (fun _ _ _ _ _ => (pts_0 (st_cmp op_lt' (se_ix ix_item (se_ix ix_item (se_var 2) (se_var 7)) (se_un un_neg' se_int)) (se_var 5)))) (fun _ _ _ _ _ => pe_0 (se_tup (sa_cons (se_ix ix_item (se_ix ix_item (se_var 2) (se_var 7)) (se_un un_neg' se_int)) (sa_cons (se_var 7) sa_nil))))) (ss_one (ss_ret (se_if (st_cmp (op_ne' (hu64 hr)) (se_var 6) (se_lst sa_nil)) (se_ix ix_item (se_callB (cl_maxL rfl (hu64 hr)) rfl T.f_max (by decide +kernel) (sa_cons (se_var 6) sa_nil)) se_int) se_non)))))
theorem ok_sight_of (T : Txt K mg) : FnG P w K mg base 2 (He.ga K "sight_of") (fdOf K (He.ga K "sight_of")) ["lot", "levels", "times", "deed", "place"] m_sight_of := raw_sight_of T
/-! seen_in -/
theorem sc_seen_in : FnScope ["lot", "levels", "times", "found", "number", "deed", "place", "what", "thing"] ["lot", "levels", "times"] (defScope (top 33)) := ⟨rfl, rfl, rfl, by decide +kernel, rfl, by decide +kernel, by decide +kernel⟩
theorem raw_seen_in (T : Txt K mg) : FnG P w K mg base 3 (He.ga K "seen_in") (fdOf K (He.ga K "seen_in")) ["lot", "levels", "times"] (bodyF 9 t_seen_in) :=
  fn_g T.F_seen_in sc_seen_in fun cdv A outer s H E hr hgd => (ss_cons (ss_set 3 sc_seen_in.nd (se_new sa_nil)) (ss_cons (ss_for passB rfl (si_enum rfl T.f_enumerate (se_var 0)) (sg_tup rfl (sgs_cons (sg_name 4 sc_seen_in.nd) (sgs_cons (sg_name 5 sc_seen_in.nd) sgs_nil))) (ss_one (ss_for passB rfl (si_enum rfl T.f_enumerate (se_var 5)) (sg_tup rfl (sgs_cons (sg_name 6 sc_seen_in.nd) (sgs_cons (sg_tup rfl (sgs_cons (sg_name 7 sc_seen_in.nd) (sgs_cons (sg_name 8 sc_seen_in.nd) sgs_nil))) sgs_nil))) (ss_one (ss_if (st_cmp (op_eq' (hu64 hr)) (se_var 7) (se_gstr rfl T.c_LOOK)) (ss_one (ss_expr (se_mt PySem.F.plainAttrs_list PySem.F.slot_list_append PySem.F.type_list_append mt_append' chk_list (se_var 3) (sa_cons (se_tup (sa_cons (se_var 4) (sa_cons (se_var 6) (sa_cons (se_call (ok_sight_of T) (hr.mono (by decide)) hgd rfl T.g_sight_of T.k_sight_of T.b_sight_of (sa_cons (se_var 0) (sa_cons (se_var 1) (sa_cons (se_var 2) (sa_cons (se_var 4) (sa_cons (se_var 6) sa_nil)))))) sa_nil)))) sa_nil)))) ss_nil))))) (ss_one (ss_ret (se_var 3)))))
theorem ok_seen_in (T : Txt K mg) : FnG P w K mg base 3 (He.ga K "seen_in") (fdOf K (He.ga K "seen_in")) ["lot", "levels", "times"] m_seen_in := raw_seen_in T
/-! seen -/
theorem sc_seen : FnScope ["lot", "levels", "run"] ["lot", "levels", "run"] (defScope (top 34)) := ⟨rfl, rfl, rfl, by decide +kernel, rfl, by decide +kernel, by decide +kernel⟩
theorem raw_seen (T : Txt K mg) : FnG P w K mg base 9 (He.ga K "seen") (fdOf K (He.ga K "seen")) ["lot", "levels", "run"] (bodyF 3 t_seen) :=
  fn_g T.F_seen sc_seen fun cdv A outer s H E hr hgd => (ss_cons (ss_expr (se_call (ok_need_all T) (hr.mono (by decide)) hgd rfl T.g_need_all T.k_need_all T.b_need_all (sa_cons (se_var 0) (sa_cons (se_var 1) (sa_cons (se_var 2) sa_nil))))) (ss_one (ss_ret (se_callTy cl_tuple rfl T.f_tuple (by decide +kernel) (sa_cons (se_call (ok_seen_in T) (hr.mono (by decide)) hgd rfl T.g_seen_in T.k_seen_in T.b_seen_in (sa_cons (se_var 0) (sa_cons (se_var 1) (sa_cons (se_call (ok_times_of T) (hr.mono (by decide)) hgd rfl T.g_times_of T.k_times_of T.b_times_of (sa_cons (se_var 0) (sa_cons (se_var 2) sa_nil))) sa_nil)))) sa_nil)))))
theorem ok_seen (T : Txt K mg) : FnG P w K mg base 9 (He.ga K "seen") (fdOf K (He.ga K "seen")) ["lot", "levels", "run"] m_seen := raw_seen T
/-! _law_begun -/
theorem sc_l_begun : FnScope ["_law_script", "_law_k", "_law_cells", "_law_great", "_law_seed", "_law_cell"] ["_law_script", "_law_k"] (defScope (top 36)) := ⟨rfl, rfl, rfl, by decide +kernel, rfl, by decide +kernel, by decide +kernel⟩
theorem raw_l_begun (T : Txt K mg) : FnG P w K mg base 1 (He.ga K "_law_begun") (fdOf K (He.ga K "_law_begun")) ["_law_script", "_law_k"] (bodyF 6 t_l_begun) :=
  fn_g T.F_l_begun sc_l_begun fun cdv A outer s H E hr hgd => (ss_cons (ss_set 2 sc_l_begun.nd (se_bin op_add' (se_sl sl_any (se_var 0) (so_part (se_var 1)) so_no) (se_sl sl_any (se_var 0) so_no (so_part (se_var 1))))) (ss_cons (ss_setLc 3 [("_law_cell", 5)] fin_fz rfl sc_l_begun.nd (si_seq (se_var 2)) (blkOk_by (N := ["_law_script", "_law_k", "_law_cells", "_law_great", "_law_seed", "_law_cell"]) (sc := defScope (top 36)) (by decide +kernel)) (fun _ _ _ _ _ => (sg_name 5 sc_l_begun.nd)) (fun _ _ _ _ _ => (pts_0 (st_cmp op_ge' (se_var 5) (se_bin op_pow' se_int se_int)))) (fun _ _ _ _ _ => pe_0 (se_var 5))) (ss_cons (ss_set 4 sc_l_begun.nd (se_bin op_add' se_int (se_var 1))) (ss_cons (ss_for passB rfl (si_seq (se_var 2)) (sg_name 5 sc_l_begun.nd) (ss_one (ss_set 4 sc_l_begun.nd (se_bin op_mod' (se_callTy cl_int rfl T.f_int (by decide +kernel) (sa_cons (se_bin op_add' (se_bin op_mulT (se_var 4) se_int) (se_var 5)) sa_nil)) se_int)))) (ss_one (ss_ret (se_disp (ts := [((sxC (.str "left")), (sxIf (stB (sx2 vNe (sxVar 3) (sxN vLst saNil))) (sx2 vItem (sxVar 3) (sxC (.int 0))) (sxC (.int 0)))), ((sxC (.str "seed")), (sxVar 4)), ((sxC (.str "cells")), (sx2 vAdd (sxVar 2) (sxN vLst (saCons (sx2 vAdd (sx2 vMulT (sxC (.int 29)) (sxVar 1)) (sxC (.int 7))) saNil)))), ((sxC (.str "spot")), (sxC (.int 0)))]) (pps_cons se_str (se_if (st_cmp (op_ne' (hu64 hr)) (se_var 3) (se_lst sa_nil)) (se_ix ix_item (se_var 3) se_int) se_int) (pps_cons se_str (se_var 4) (pps_cons se_str (se_bin op_add' (se_var 2) (se_lst (sa_cons (se_bin op_add' (se_bin op_mulT se_int (se_var 1)) se_int) sa_nil))) (pps_cons se_str se_int pps_nil)))))))))))
theorem ok_l_begun (T : Txt K mg) : FnG P w K mg base 1 (He.ga K "_law_begun") (fdOf K (He.ga K "_law_begun")) ["_law_script", "_law_k"] m_l_begun := raw_l_begun T
/-! _law_draw -/
theorem sc_l_draw : FnScope ["_law_m", "_law_many", "_law_found", "_law_spot", "_law_cells", "_law_added", "_law_cell", "_law_blend"] ["_law_m", "_law_many"] (defScope (top 37)) := ⟨rfl, rfl, rfl, by decide +kernel, rfl, by decide +kernel, by decide +kernel⟩
theorem raw_l_draw (T : Txt K mg) : FnG P w K mg base 1 (He.ga K "_law_draw") (fdOf K (He.ga K "_law_draw")) ["_law_m", "_law_many"] (bodyF 8 t_l_draw) :=
  fn_g T.F_l_draw sc_l_draw fun cdv A outer s H E hr hgd => (ss_cons (ss_if (st_cmp op_gt' (se_dget (hu1 hr) (se_var 0) se_str) se_int) (ss_cons (ss_set 2 sc_l_draw.nd (se_bin op_mod' (se_callTy cl_int rfl T.f_int (by decide +kernel) (sa_cons (se_dget (hu1 hr) (se_var 0) se_str) sa_nil)) (se_var 1))) (ss_cons (ss_sub (hu1 hr) (se_var 0) se_str (se_bin op_fdiv' (se_dget (hu1 hr) (se_var 0) se_str) (se_var 1))) (ss_one (ss_ret (se_var 2))))) ss_nil) (ss_cons (ss_set 3 sc_l_draw.nd (se_dget (hu1 hr) (se_var 0) se_str)) (ss_cons (ss_sub (hu1 hr) (se_var 0) se_str (se_bin op_add' (se_var 3) se_int)) (ss_cons (ss_par 4 5 rfl sc_l_draw.nd (sa_cons (se_dget (hu1 hr) (se_var 0) se_str) (sa_cons (se_bin op_add' (se_dget (hu1 hr) (se_var 0) se_str) (se_bin op_mulT (se_bin op_mulT se_int (se_var 3)) (se_var 3))) sa_nil))) (ss_cons (ss_set 6 sc_l_draw.nd (se_ix ix_item (se_var 4) (se_bin op_mod' (se_callTy cl_int rfl T.f_int (by decide +kernel) (sa_cons (se_var 3) sa_nil)) (se_callB (cl_len) rfl T.f_len (by decide +kernel) (sa_cons (se_var 4) sa_nil))))) (ss_cons (ss_set 7 sc_l_draw.nd (se_bin op_mod' (se_callTy cl_int rfl T.f_int (by decide +kernel) (sa_cons (se_bin op_add' (se_bin op_mulT (se_var 6) (se_bin op_add' (se_bin op_mulT se_int (se_var 3)) se_int)) (se_var 5)) sa_nil)) se_int)) (ss_cons (ss_set 7 sc_l_draw.nd (se_bin op_mod' (se_callTy cl_int rfl T.f_int (by decide +kernel) (sa_cons (se_bin op_add' (se_bin op_add' (se_bin op_mulT (se_var 7) (se_var 7)) (se_bin op_mulT se_int (se_var 3))) (se_dget (hu1 hr) (se_var 0) se_str)) sa_nil)) se_int)) (ss_one (ss_ret (se_bin op_mod' (se_bin op_fdiv' (se_bin op_mod' (se_callTy cl_int rfl T.f_int (by decide +kernel) (sa_cons (se_bin op_add' (se_bin op_mulT (se_var 7) se_int) (se_var 3)) sa_nil)) se_int) se_int) (se_var 1)))))))))))
theorem ok_l_draw (T : Txt K mg) : FnG P w K mg base 1 (He.ga K "_law_draw") (fdOf K (He.ga K "_law_draw")) ["_law_m", "_law_many"] m_l_draw := raw_l_draw T
/-! _law_of -/
theorem sc_l_of : FnScope ["_law_m", "_law_some"] ["_law_m", "_law_some"] (defScope (top 38)) := ⟨rfl, rfl, rfl, by decide +kernel, rfl, by decide +kernel, by decide +kernel⟩
theorem raw_l_of (T : Txt K mg) : FnG P w K mg base 2 (He.ga K "_law_of") (fdOf K (He.ga K "_law_of")) ["_law_m", "_law_some"] (bodyF 2 t_l_of) :=
  fn_g T.F_l_of sc_l_of fun cdv A outer s H E hr hgd => (ss_one (ss_ret (se_ix ix_item (se_var 1) (se_call (ok_l_draw T) (hr.mono (by decide)) hgd rfl T.g_l_draw T.k_l_draw T.b_l_draw (sa_cons (se_var 0) (sa_cons (se_callB (cl_len) rfl T.f_len (by decide +kernel) (sa_cons (se_var 1) sa_nil)) sa_nil))))))
theorem ok_l_of (T : Txt K mg) : FnG P w K mg base 2 (He.ga K "_law_of") (fdOf K (He.ga K "_law_of")) ["_law_m", "_law_some"] m_l_of := raw_l_of T
/-! _law_deed -/
theorem sc_l_deed : FnScope ["_law_m", "_law_words", "_law_long", "_law_found", "_law_k", "_law_step"] ["_law_m", "_law_words", "_law_long"] (defScope (top 39)) := ⟨rfl, rfl, rfl, by decide +kernel, rfl, by decide +kernel, by decide +kernel⟩
theorem raw_l_deed (T : Txt K mg) : FnG P w K mg base 3 (He.ga K "_law_deed") (fdOf K (He.ga K "_law_deed")) ["_law_m", "_law_words", "_law_long"] (bodyF 6 t_l_deed) :=
  fn_g T.F_l_deed sc_l_deed fun cdv A outer s H E hr hgd => (ss_cons (ss_set 3 sc_l_deed.nd (se_new sa_nil)) (ss_cons (ss_for passB rfl (si_range1 rfl T.f_range (se_bin op_add' se_int (se_call (ok_l_draw T) (hr.mono (by decide)) hgd rfl T.g_l_draw T.k_l_draw T.b_l_draw (sa_cons (se_var 0) (sa_cons (se_var 2) sa_nil))))) (sg_name 4 sc_l_deed.nd) (ss_cons (ss_set 5 sc_l_deed.nd (se_tup (sa_cons (se_ix ix_item (se_lst (sa_cons se_str (sa_cons se_str sa_nil))) (se_call (ok_l_draw T) (hr.mono (by decide)) hgd rfl T.g_l_draw T.k_l_draw T.b_l_draw (sa_cons (se_var 0) (sa_cons se_int sa_nil)))) (sa_cons (se_call (ok_l_of T) (hr.mono (by decide)) hgd rfl T.g_l_of T.k_l_of T.b_l_of (sa_cons (se_var 0) (sa_cons (se_var 1) sa_nil))) sa_nil)))) (ss_one (ss_if (PW.pt (st_and (st_cmp (op_notIn' (hu65 hr)) (se_var 5) (se_var 3)) (st_and1 (PW.pt (st_or (st_cmp (op_eq' (hu64 hr)) (se_ix ix_item (se_var 5) se_int) se_str) (st_or1 (st_cmp (op_notIn' (hu65 hr)) (se_tup (sa_cons se_str (sa_cons (se_ix ix_item (se_var 5) se_int) sa_nil))) (se_var 3)))))))) (ss_one (ss_expr (se_mt PySem.F.plainAttrs_list PySem.F.slot_list_append PySem.F.type_list_append mt_append' chk_list (se_var 3) (sa_cons (se_var 5) sa_nil)))) ss_nil)))) (ss_one (ss_ret (se_callTy cl_tuple rfl T.f_tuple (by decide +kernel) (sa_cons (se_var 3) sa_nil))))))
theorem ok_l_deed (T : Txt K mg) : FnG P w K mg base 3 (He.ga K "_law_deed") (fdOf K (He.ga K "_law_deed")) ["_law_m", "_law_words", "_law_long"] m_l_deed := raw_l_deed T
/-! _law_crew -/
theorem sc_l_crew : FnScope ["_law_m", "_law_many", "_law_long", "_law_words", "_law_k"] ["_law_m", "_law_many", "_law_long"] (defScope (top 40)) := ⟨rfl, rfl, rfl, by decide +kernel, rfl, by decide +kernel, by decide +kernel⟩
theorem raw_l_crew (T : Txt K mg) : FnG P w K mg base 4 (He.ga K "_law_crew") (fdOf K (He.ga K "_law_crew")) ["_law_m", "_law_many", "_law_long"] (bodyF 5 t_l_crew) :=
  fn_g T.F_l_crew sc_l_crew fun cdv A outer s H E hr hgd => (ss_cons (ss_set 3 sc_l_crew.nd (se_call (ok_l_of T) (hr.mono (by decide)) hgd rfl T.g_l_of T.k_l_of T.b_l_of (sa_cons (se_var 0) (sa_cons (se_lst (sa_cons (se_lst (sa_cons se_str sa_nil)) (sa_cons (se_lst (sa_cons se_str (sa_cons se_str sa_nil))) (sa_cons (se_lst (sa_cons se_str (sa_cons se_str (sa_cons se_str sa_nil)))) (sa_cons (se_lst (sa_cons se_str (sa_cons se_str (sa_cons se_str sa_nil)))) (sa_cons (se_lst (sa_cons se_str (sa_cons se_str sa_nil))) (sa_cons (se_lst (sa_cons se_str (sa_cons se_str (sa_cons se_str (sa_cons se_str sa_nil))))) sa_nil))))))) sa_nil)))) (ss_one (ss_ret (se_callTy cl_tuple rfl T.f_tuple (by decide +kernel) (sa_cons (se_lc [("_law_k", 4)] fin_fz rfl sc_l_crew.nd (si_range1 rfl T.f_range (se_bin op_add' se_int (se_call (ok_l_draw T) (hr.mono (by decide)) hgd rfl T.g_l_draw T.k_l_draw T.b_l_draw (sa_cons (se_var 0) (sa_cons (se_var 1) sa_nil))))) (blkOk_by (N := ["_law_m", "_law_many", "_law_long", "_law_words", "_law_k"]) (sc := defScope (top 40)) (by decide +kernel)) (fun _ _ _ _ _ => (sg_name 4 sc_l_crew.nd)) (fun _ _ _ _ _ => pts_yes) (fun _ _ _ _ _ => pe_0 (se_call (ok_l_deed T) (hr.mono (by decide)) hgd rfl T.g_l_deed T.k_l_deed T.b_l_deed (sa_cons (se_var 0) (sa_cons (se_var 3) (sa_cons (se_var 2) sa_nil)))))) sa_nil)))))
theorem ok_l_crew (T : Txt K mg) : FnG P w K mg base 4 (He.ga K "_law_crew") (fdOf K (He.ga K "_law_crew")) ["_law_m", "_law_many", "_law_long"] m_l_crew := raw_l_crew T
/-! _law_tiers -/
theorem sc_l_tiers : FnScope ["_law_m", "_law_crew_here", "_law_deed_here"] ["_law_m", "_law_crew_here"] (defScope (top 41)) := ⟨rfl, rfl, rfl, by decide +kernel, rfl, by decide +kernel, by decide +kernel⟩
theorem raw_l_tiers (T : Txt K mg) : FnG P w K mg base 2 (He.ga K "_law_tiers") (fdOf K (He.ga K "_law_tiers")) ["_law_m", "_law_crew_here"] (bodyF 3 t_l_tiers) :=
  fn_g T.F_l_tiers sc_l_tiers fun cdv A outer s H E hr hgd => (ss_one (ss_ret (se_callTy cl_tuple rfl T.f_tuple (by decide +kernel) (sa_cons (se_lc [("_law_deed_here", 2)] fin_fz rfl sc_l_tiers.nd (si_seq (se_var 1)) (blkOk_by (N := ["_law_m", "_law_crew_here", "_law_deed_here"]) (sc := defScope (top 41)) (by decide +kernel)) (fun _ _ _ _ _ => (sg_name 2 sc_l_tiers.nd)) (fun _ _ _ _ _ => pts_yes) (fun _ _ _ _ _ => pe_0 (se_ix ix_item (se_lst (sa_cons se_str (sa_cons se_str (sa_cons se_str sa_nil)))) (se_call (ok_l_draw T) (hr.mono (by decide)) hgd rfl T.g_l_draw T.k_l_draw T.b_l_draw (sa_cons (se_var 0) (sa_cons se_int sa_nil)))))) sa_nil))))
theorem ok_l_tiers (T : Txt K mg) : FnG P w K mg base 2 (He.ga K "_law_tiers") (fdOf K (He.ga K "_law_tiers")) ["_law_m", "_law_crew_here"] m_l_tiers := raw_l_tiers T
/-! _law_course -/
theorem sc_l_course : FnScope ["_law_m", "_law_crew_here", "_law_left", "_law_found", "_law_some", "_law_k", "_law_deed_here"] ["_law_m", "_law_crew_here"] (defScope (top 42)) := ⟨rfl, rfl, rfl, by decide +kernel, rfl, by decide +kernel, by decide +kernel⟩
theorem raw_l_course (T : Txt K mg) : FnG P w K mg base 2 (He.ga K "_law_course") (fdOf K (He.ga K "_law_course")) ["_law_m", "_law_crew_here"] (bodyF 7 t_l_course) :=
  fn_g T.F_l_course sc_l_course fun cdv A outer s H E hr hgd => (ss_cons (ss_asg (se_tup (sa_cons (se_lc [("_law_deed_here", 6)] fin_nw rfl sc_l_course.nd (si_seq (se_var 1)) (blkOk_by (N := ["_law_m", "_law_crew_here", "_law_left", "_law_found", "_law_some", "_law_k", "_law_deed_here"]) (sc := defScope (top 42)) (by decide +kernel)) (fun _ _ _ _ _ => (sg_name 6 sc_l_course.nd)) (fun _ _ _ _ _ => pts_yes) (fun _ _ _ _ _ => pe_0 (se_bin op_add' (se_callB (cl_len) rfl T.f_len (by decide +kernel) (sa_cons (se_var 6) sa_nil)) se_int))) (sa_cons (se_new sa_nil) sa_nil))) (sg_tup rfl (sgs_cons (sg_name 2 sc_l_course.nd) (sgs_cons (sg_name 3 sc_l_course.nd) sgs_nil)))) (ss_cons (ss_while 1000000 passB (st_cmp op_gt' (se_callB (cl_sum rfl) rfl T.f_sum (by decide +kernel) (sa_cons (se_var 2) sa_nil)) se_int) (ss_cons (ss_setLc 4 [("_law_k", 5)] fin_fz rfl sc_l_course.nd (si_range1 rfl T.f_range (se_callB (cl_len) rfl T.f_len (by decide +kernel) (sa_cons (se_var 1) sa_nil))) (blkOk_by (N := ["_law_m", "_law_crew_here", "_law_left", "_law_found", "_law_some", "_law_k", "_law_deed_here"]) (sc := defScope (top 42)) (by decide +kernel)) (fun _ _ _ _ _ => (sg_name 5 sc_l_course.nd)) (fun _ _ _ _ _ => (pts_0 (st_cmp op_gt' (se_ix ix_item (se_var 2) (se_var 5)) se_int))) (fun _ _ _ _ _ => pe_0 (se_var 5))) (ss_cons (ss_set 5 sc_l_course.nd (se_ix ix_item (se_var 4) (se_call (ok_l_draw T) (hr.mono (by decide)) hgd rfl T.g_l_draw T.k_l_draw T.b_l_draw (sa_cons (se_var 0) (sa_cons (se_callB (cl_len) rfl T.f_len (by decide +kernel) (sa_cons (se_var 4) sa_nil)) sa_nil))))) (ss_cons (ss_if (PW.pt (st_and (st_cmp (op_ne' (hu64 hr)) (se_var 3) (se_lst sa_nil)) (st_and (st_cmp op_gt' (se_ix ix_item (se_var 2) (se_ix ix_item (se_var 3) (se_un un_neg' se_int))) se_int) (st_and1 (st_cmp (op_eq' (hu64 hr)) (se_call (ok_l_draw T) (hr.mono (by decide)) hgd rfl T.g_l_draw T.k_l_draw T.b_l_draw (sa_cons (se_var 0) (sa_cons se_int sa_nil))) se_int))))) (ss_one (ss_set 5 sc_l_course.nd (se_ix ix_item (se_var 3) (se_un un_neg' se_int)))) ss_nil) (ss_cons (ss_sub (hu1 hr) (se_var 2) (se_var 5) (se_bin op_sub' (se_ix ix_item (se_var 2) (se_var 5)) se_int)) (ss_one (ss_expr (se_mt PySem.F.plainAttrs_list PySem.F.slot_list_append PySem.F.type_list_append mt_append' chk_list (se_var 3) (sa_cons (se_var 5) sa_nil))))))))) (ss_one (ss_ret (se_callTy cl_tuple rfl T.f_tuple (by decide +kernel) (sa_cons (se_var 3) sa_nil))))))
theorem ok_l_course (T : Txt K mg) : FnG P w K mg base 2 (He.ga K "_law_course") (fdOf K (He.ga K "_law_course")) ["_law_m", "_law_crew_here"] m_l_course := raw_l_course T
/-! _law_clocks -/
theorem sc_l_clocks : FnScope ["_law_crew_here", "_law_course_here", "_law_found", "_law_spot", "_law_k", "_law_deed_here"] ["_law_crew_here", "_law_course_here"] (defScope (top 43)) := ⟨rfl, rfl, rfl, by decide +kernel, rfl, by decide +kernel, by decide +kernel⟩
theorem raw_l_clocks (T : Txt K mg) : FnG P w K mg base 1 (He.ga K "_law_clocks") (fdOf K (He.ga K "_law_clocks")) ["_law_crew_here", "_law_course_here"] (bodyF 6 t_l_clocks) :=
  fn_g T.F_l_clocks sc_l_clocks fun cdv A outer s H E hr hgd => (ss_cons (ss_setLc 2 [("_law_deed_here", 5)] fin_fz rfl sc_l_clocks.nd (si_seq (se_var 0)) (blkOk_by (N := ["_law_crew_here", "_law_course_here", "_law_found", "_law_spot", "_law_k", "_law_deed_here"]) (sc := defScope (top 43)) (by decide +kernel)) (fun _ _ _ _ _ => (sg_name 5 sc_l_clocks.nd)) (fun _ _ _ _ _ => pts_yes) (fun _ _ _ _ _ => pe_0 (se_new sa_nil))) (ss_cons (ss_for passB rfl (si_enum rfl T.f_enumerate (se_var 1)) (sg_tup rfl (sgs_cons (sg_name 3 sc_l_clocks.nd) (sgs_cons (sg_name 4 sc_l_clocks.nd) sgs_nil))) (ss_one (ss_expr (se_mt PySem.F.plainAttrs_list PySem.F.slot_list_append PySem.F.type_list_append mt_append' chk_list (se_ix ix_item (se_var 2) (se_var 4)) (sa_cons (se_var 3) sa_nil))))) (ss_one (ss_ret (se_var 2)))))
theorem ok_l_clocks (T : Txt K mg) : FnG P w K mg base 1 (He.ga K "_law_clocks") (fdOf K (He.ga K "_law_clocks")) ["_law_crew_here", "_law_course_here"] m_l_clocks := raw_l_clocks T
/-! _law_marks -/
theorem sc_l_marks : FnScope ["_law_deed_here", "_law_word"] ["_law_deed_here", "_law_word"] (defScope (top 44)) := ⟨rfl, rfl, rfl, by decide +kernel, rfl, by decide +kernel, by decide +kernel⟩
theorem raw_l_marks (T : Txt K mg) : FnG P w K mg base 1 (He.ga K "_law_marks") (fdOf K (He.ga K "_law_marks")) ["_law_deed_here", "_law_word"] (bodyF 2 t_l_marks) :=
  fn_g T.F_l_marks sc_l_marks fun cdv A outer s H E hr hgd => (ss_one (ss_ret (se_cmp (op_in' (hu65 hr)) (se_tup (sa_cons se_str (sa_cons (se_var 1) sa_nil))) (se_var 0))))
theorem ok_l_marks (T : Txt K mg) : FnG P w K mg base 1 (He.ga K "_law_marks") (fdOf K (He.ga K "_law_marks")) ["_law_deed_here", "_law_word"] m_l_marks := raw_l_marks T
/-! _law_sight -/
theorem sc_l_sight : FnScope ["_law_crew_here", "_law_tiers_here", "_law_clocks_here", "_law_k", "_law_place", "_law_spot", "_law_word", "_law_best", "_law_one"] ["_law_crew_here", "_law_tiers_here", "_law_clocks_here", "_law_k", "_law_place"] (defScope (top 45)) := ⟨rfl, rfl, rfl, by decide +kernel, rfl, by decide +kernel, by decide +kernel⟩
theorem raw_l_sight (T : Txt K mg) : FnG P w K mg base 2 (He.ga K "_law_sight") (fdOf K (He.ga K "_law_sight")) ["_law_crew_here", "_law_tiers_here", "_law_clocks_here", "_law_k", "_law_place"] (bodyF 9 t_l_sight) :=
  fn_g T.F_l_sight sc_l_sight fun cdv A outer s H E hr hgd => (ss_cons (ss_par 5 6 rfl sc_l_sight.nd (sa_cons (se_ix ix_item (se_ix ix_item (se_var 2) (se_var 3)) se_int) (sa_cons (se_ix ix_item (se_ix ix_item (se_ix ix_item (se_var 0) (se_var 3)) (se_var 4)) se_int) sa_nil))) (ss_cons (ss_if (st_cmp (op_eq' (hu64 hr)) (se_ix ix_item (se_var 1) (se_var 3)) se_str) (ss_one (ss_set 5 sc_l_sight.nd (se_ix ix_item (se_ix ix_item (se_var 2) (se_var 3)) (se_var 4)))) ss_nil) (ss_cons (ss_set 7 sc_l_sight.nd se_non) (ss_cons (ss_for passB rfl (si_range1 rfl T.f_range (se_callB (cl_len) rfl T.f_len (by decide +kernel) (sa_cons (se_var 0) sa_nil))) (sg_name 8 sc_l_sight.nd) (ss_one (ss_if (PW.pt (st_and (st_cmp (op_ne' (hu64 hr)) (se_var 8) (se_var 3)) (st_and (st_val (se_call (ok_l_marks T) (hr.mono (by decide)) hgd rfl T.g_l_marks T.k_l_marks T.b_l_marks (sa_cons (se_ix ix_item (se_var 0) (se_var 8)) (sa_cons (se_var 6) sa_nil)))) (st_and1 (st_cmp op_lt' (se_ix ix_item (se_ix ix_item (se_var 2) (se_var 8)) (se_un un_neg' se_int)) (se_var 5)))))) (ss_one (ss_if (PW.pt (st_or (st_cmp op_isN' (se_var 7) se_non) (st_or1 (st_cmp op_gt' (se_ix ix_item (se_ix ix_item (se_var 2) (se_var 8)) (se_un un_neg' se_int)) (se_ix ix_item (se_ix ix_item (se_var 2) (se_var 7)) (se_un un_neg' se_int)))))) (ss_one (ss_set 7 sc_l_sight.nd (se_var 8))) ss_nil)) ss_nil))) (ss_one (ss_ret (se_var 7)))))))
theorem ok_l_sight (T : Txt K mg) : FnG P w K mg base 2 (He.ga K "_law_sight") (fdOf K (He.ga K "_law_sight")) ["_law_crew_here", "_law_tiers_here", "_law_clocks_here", "_law_k", "_law_place"] m_l_sight := raw_l_sight T
/-! _law_looks -/
theorem sc_l_looks : FnScope ["_law_deed_here", "_law_place"] ["_law_deed_here"] (defScope (top 46)) := ⟨rfl, rfl, rfl, by decide +kernel, rfl, by decide +kernel, by decide +kernel⟩
theorem raw_l_looks (T : Txt K mg) : FnG P w K mg base 1 (He.ga K "_law_looks") (fdOf K (He.ga K "_law_looks")) ["_law_deed_here"] (bodyF 2 t_l_looks) :=
  fn_g T.F_l_looks sc_l_looks fun cdv A outer s H E hr hgd => (ss_one (ss_ret (se_lc [("_law_place", 1)] fin_fz rfl sc_l_looks.nd (si_range1 rfl T.f_range (se_callB (cl_len) rfl T.f_len (by decide +kernel) (sa_cons (se_var 0) sa_nil))) (blkOk_by (N := ["_law_deed_here", "_law_place"]) (sc := defScope (top 46)) (by decide +kernel)) (fun _ _ _ _ _ => (sg_name 1 sc_l_looks.nd)) (fun _ _ _ _ _ => (pts_0 (st_cmp (op_eq' (hu64 hr)) (se_ix ix_item (se_ix ix_item (se_var 0) (se_var 1)) se_int) se_str))) (fun _ _ _ _ _ => pe_0 (se_var 1)))))
theorem ok_l_looks (T : Txt K mg) : FnG P w K mg base 1 (He.ga K "_law_looks") (fdOf K (He.ga K "_law_looks")) ["_law_deed_here"] m_l_looks := raw_l_looks T
/-! _law_due -/
theorem sc_l_due : FnScope ["_law_crew_here", "_law_tiers_here", "_law_course_here", "_law_clocks_here", "_law_found", "_law_k", "_law_place"] ["_law_crew_here", "_law_tiers_here", "_law_course_here"] (defScope (top 47)) := ⟨rfl, rfl, rfl, by decide +kernel, rfl, by decide +kernel, by decide +kernel⟩
theorem raw_l_due (T : Txt K mg) : FnG P w K mg base 3 (He.ga K "_law_due") (fdOf K (He.ga K "_law_due")) ["_law_crew_here", "_law_tiers_here", "_law_course_here"] (bodyF 7 t_l_due) :=
  fn_g T.F_l_due sc_l_due fun cdv A outer s H E hr hgd => (ss_cons (ss_par 3 4 rfl sc_l_due.nd (sa_cons (se_call (ok_l_clocks T) (hr.mono (by decide)) hgd rfl T.g_l_clocks T.k_l_clocks T.b_l_clocks (sa_cons (se_var 0) (sa_cons (se_var 2) sa_nil))) (sa_cons (se_new sa_nil) sa_nil))) (ss_cons (ss_for passB rfl (si_range1 rfl T.f_range (se_callB (cl_len) rfl T.f_len (by decide +kernel) (sa_cons (se_var 0) sa_nil))) (sg_name 5 sc_l_due.nd) (ss_one (ss_for passB rfl (si_seq (se_call (ok_l_looks T) (hr.mono (by decide)) hgd rfl T.g_l_looks T.k_l_looks T.b_l_looks (sa_cons (se_ix ix_item (se_var 0) (se_var 5)) sa_nil))) (sg_name 6 sc_l_due.nd) (ss_one (ss_expr (se_mt PySem.F.plainAttrs_list PySem.F.slot_list_append PySem.F.type_list_append mt_append' chk_list (se_var 4) (sa_cons (se_tup (sa_cons (se_var 5) (sa_cons (se_var 6) (sa_cons (se_call (ok_l_sight T) (hr.mono (by decide)) hgd rfl T.g_l_sight T.k_l_sight T.b_l_sight (sa_cons (se_var 0) (sa_cons (se_var 1) (sa_cons (se_var 3) (sa_cons (se_var 5) (sa_cons (se_var 6) sa_nil)))))) sa_nil)))) sa_nil))))))) (ss_one (ss_ret (se_callTy cl_tuple rfl T.f_tuple (by decide +kernel) (sa_cons (se_var 4) sa_nil))))))
theorem ok_l_due (T : Txt K mg) : FnG P w K mg base 3 (He.ga K "_law_due") (fdOf K (He.ga K "_law_due")) ["_law_crew_here", "_law_tiers_here", "_law_course_here"] m_l_due := raw_l_due T
/-! _law_right -/
theorem sc_l_right : FnScope ["_law_crew_here", "_law_tiers_here", "_law_course_here", "_law_kept_so", "_law_due_here", "_law_told"] ["_law_crew_here", "_law_tiers_here", "_law_course_here"] (defScope (top 48)) := ⟨rfl, rfl, rfl, by decide +kernel, rfl, by decide +kernel, by decide +kernel⟩
theorem raw_l_right (T : Txt K mg) : FnG P w K mg base 10 (He.ga K "_law_right") (fdOf K (He.ga K "_law_right")) ["_law_crew_here", "_law_tiers_here", "_law_course_here"] (bodyF 6 t_l_right) :=
  fn_g T.F_l_right sc_l_right fun cdv A outer s H E hr hgd => (ss_cons (ss_par 3 4 rfl sc_l_right.nd (sa_cons (se_callB (cl_repr hgd (hu65 hr)) rfl T.f_repr (by decide +kernel) (sa_cons (se_lst (sa_cons (se_var 0) (sa_cons (se_var 1) (sa_cons (se_var 2) sa_nil)))) sa_nil)) (sa_cons (se_call (ok_l_due T) (hr.mono (by decide)) hgd rfl T.g_l_due T.k_l_due T.b_l_due (sa_cons (se_var 0) (sa_cons (se_var 1) (sa_cons (se_var 2) sa_nil)))) sa_nil))) (ss_cons (ss_set 5 sc_l_right.nd (se_lst (sa_cons (se_call (ok_seen T) (hr.mono (by decide)) hgd rfl T.g_seen T.k_seen T.b_seen (sa_cons (se_var 0) (sa_cons (se_var 1) (sa_cons (se_var 2) sa_nil)))) (sa_cons (se_call (ok_seen T) (hr.mono (by decide)) hgd rfl T.g_seen T.k_seen T.b_seen (sa_cons (se_var 0) (sa_cons (se_var 1) (sa_cons (se_var 2) sa_nil)))) sa_nil)))) (ss_one (ss_ret (se_and (se_cmp (op_eqS (hu64 hr)) (se_callB (cl_repr hgd (hu65 hr)) rfl T.f_repr (by decide +kernel) (sa_cons (se_var 5) sa_nil)) (se_callB (cl_repr hgd (hu65 hr)) rfl T.f_repr (by decide +kernel) (sa_cons (se_lst (sa_cons (se_var 4) (sa_cons (se_var 4) sa_nil))) sa_nil))) (se_one (se_cmp (op_eqS (hu64 hr)) (se_callB (cl_repr hgd (hu65 hr)) rfl T.f_repr (by decide +kernel) (sa_cons (se_lst (sa_cons (se_var 0) (sa_cons (se_var 1) (sa_cons (se_var 2) sa_nil)))) sa_nil)) (se_var 3))))))))
theorem ok_l_right (T : Txt K mg) : FnG P w K mg base 10 (He.ga K "_law_right") (fdOf K (He.ga K "_law_right")) ["_law_crew_here", "_law_tiers_here", "_law_course_here"] m_l_right := raw_l_right T
/-! _law_alike_right -/
theorem sc_l_alike_right : FnScope ["_law_crew_here", "_law_course_here", "_law_told", "_law_tier"] ["_law_crew_here", "_law_course_here"] (defScope (top 49)) := ⟨rfl, rfl, rfl, by decide +kernel, rfl, by decide +kernel, by decide +kernel⟩
theorem raw_l_alike_right (T : Txt K mg) : FnG P w K mg base 10 (He.ga K "_law_alike_right") (fdOf K (He.ga K "_law_alike_right")) ["_law_crew_here", "_law_course_here"] (bodyF 4 t_l_alike_right) :=
  fn_g T.F_l_alike_right sc_l_alike_right fun cdv A outer s H E hr hgd => (ss_cons (ss_setLc 2 [("_law_tier", 3)] fin_fz rfl sc_l_alike_right.nd (si_seq (se_tup (sa_cons se_str (sa_cons se_str (sa_cons se_str sa_nil))))) (blkOk_by (N := ["_law_crew_here", "_law_course_here", "_law_told", "_law_tier"]) (sc := defScope (top 49)) (by decide +kernel)) (fun _ _ _ _ _ => (sg_name 3 sc_l_alike_right.nd)) (fun _ _ _ _ _ => pts_yes) (fun _ _ _ _ _ => pe_0 (se_call (ok_seen T) (hr.mono (by decide)) hgd rfl T.g_seen T.k_seen T.b_seen (sa_cons (se_var 0) (sa_cons (se_bin op_mulT (se_tup (sa_cons (se_var 3) sa_nil)) (se_callB (cl_len) rfl T.f_len (by decide +kernel) (sa_cons (se_var 0) sa_nil))) (sa_cons (se_var 1) sa_nil)))))) (ss_cons (ss_if (st_cmp (op_ne' (hu64 hr)) (se_ix ix_item (se_var 2) se_int) (se_ix ix_item (se_var 2) se_int)) (ss_one (ss_ret se_bl)) ss_nil) (ss_one (ss_ret (se_cmp (op_eqS (hu64 hr)) (se_callB (cl_repr hgd (hu65 hr)) rfl T.f_repr (by decide +kernel) (sa_cons (se_var 2) sa_nil)) (se_callB (cl_repr hgd (hu65 hr)) rfl T.f_repr (by decide +kernel) (sa_cons (se_lc [("_law_tier", 3)] fin_fz rfl sc_l_alike_right.nd (si_seq (se_tup (sa_cons se_str (sa_cons se_str (sa_cons se_str sa_nil))))) (blkOk_by (N := ["_law_crew_here", "_law_course_here", "_law_told", "_law_tier"]) (sc := defScope (top 49)) (by decide +kernel)) (fun _ _ _ _ _ => (sg_name 3 sc_l_alike_right.nd)) (fun _ _ _ _ _ => pts_yes) (fun _ _ _ _ _ => pe_0 (se_call (ok_l_due T) (hr.mono (by decide)) hgd rfl T.g_l_due T.k_l_due T.b_l_due (sa_cons (se_var 0) (sa_cons (se_bin op_mulT (se_tup (sa_cons (se_var 3) sa_nil)) (se_callB (cl_len) rfl T.f_len (by decide +kernel) (sa_cons (se_var 0) sa_nil))) (sa_cons (se_var 1) sa_nil)))))) sa_nil)))))))
theorem ok_l_alike_right (T : Txt K mg) : FnG P w K mg base 10 (He.ga K "_law_alike_right") (fdOf K (He.ga K "_law_alike_right")) ["_law_crew_here", "_law_course_here"] m_l_alike_right := raw_l_alike_right T
/-! _law_hand -/
theorem sc_l_hand : FnScope ["_law_two", "_law_rows", "_law_early", "_law_three", "_law_marks_here", "_law_lone", "_law_told", "_law_tier"] [] (defScope (top 50)) := ⟨rfl, rfl, rfl, by decide +kernel, rfl, by decide +kernel, by decide +kernel⟩
theorem raw_l_hand (T : Txt K mg) : FnG P w K mg base 10 (He.ga K "_law_hand") (fdOf K (He.ga K "_law_hand")) [] (bodyF 8 t_l_hand) :=
  fn_g T.F_l_hand sc_l_hand fun cdv A outer s H E hr hgd => (ss_cons (ss_set 0 sc_l_hand.nd (se_tup (sa_cons (se_tup (sa_cons (se_tup (sa_cons se_str (sa_cons se_str sa_nil))) (sa_cons (se_tup (sa_cons se_str (sa_cons se_str sa_nil))) sa_nil))) (sa_cons (se_tup (sa_cons (se_tup (sa_cons se_str (sa_cons se_str sa_nil))) (sa_cons (se_tup (sa_cons se_str (sa_cons se_str sa_nil))) sa_nil))) sa_nil)))) (ss_cons (ss_setLc 1 [("_law_tier", 7)] fin_fz rfl sc_l_hand.nd (si_seq (se_tup (sa_cons se_str (sa_cons se_str (sa_cons se_str sa_nil))))) (blkOk_by (N := ["_law_two", "_law_rows", "_law_early", "_law_three", "_law_marks_here", "_law_lone", "_law_told", "_law_tier"]) (sc := defScope (top 50)) (by decide +kernel)) (fun _ _ _ _ _ => (sg_name 7 sc_l_hand.nd)) (fun _ _ _ _ _ => pts_yes) (fun _ _ _ _ _ => pe_0 (se_call (ok_seen T) (hr.mono (by decide)) hgd rfl T.g_seen T.k_seen T.b_seen (sa_cons (se_var 0) (sa_cons (se_tup (sa_cons (se_var 7) (sa_cons se_str sa_nil))) (sa_cons (se_tup (sa_cons se_int (sa_cons se_int (sa_cons se_int (sa_cons se_int (sa_cons se_int (sa_cons se_int sa_nil))))))) sa_nil)))))) (ss_cons (ss_set 2 sc_l_hand.nd (se_tup (sa_cons (se_tup (sa_cons se_int (sa_cons se_int (sa_cons se_non sa_nil)))) (sa_cons (se_tup (sa_cons se_int (sa_cons se_int (sa_cons se_non sa_nil)))) sa_nil)))) (ss_cons (ss_if (st_cmp (op_ne' (hu64 hr)) (se_var 1) (se_lst (sa_cons (se_tup (sa_cons (se_tup (sa_cons se_int (sa_cons se_int (sa_cons se_non sa_nil)))) (sa_cons (se_tup (sa_cons se_int (sa_cons se_int (sa_cons se_int sa_nil)))) sa_nil))) (sa_cons (se_var 2) (sa_cons (se_var 2) sa_nil))))) (ss_one (ss_ret se_bl)) ss_nil) (ss_cons (ss_set 3 sc_l_hand.nd (se_tup (sa_cons (se_tup (sa_cons (se_tup (sa_cons se_str (sa_cons se_str sa_nil))) (sa_cons (se_tup (sa_cons se_str (sa_cons se_str sa_nil))) sa_nil))) (sa_cons (se_tup (sa_cons (se_tup (sa_cons se_str (sa_cons se_str sa_nil))) sa_nil)) (sa_cons (se_tup (sa_cons (se_tup (sa_cons se_str (sa_cons se_str sa_nil))) (sa_cons (se_tup (sa_cons se_str (sa_cons se_str sa_nil))) sa_nil))) sa_nil))))) (ss_cons (ss_setLc 1 [("_law_tier", 7)] fin_fz rfl sc_l_hand.nd (si_seq (se_tup (sa_cons se_str (sa_cons se_str sa_nil)))) (blkOk_by (N := ["_law_two", "_law_rows", "_law_early", "_law_three", "_law_marks_here", "_law_lone", "_law_told", "_law_tier"]) (sc := defScope (top 50)) (by decide +kernel)) (fun _ _ _ _ _ => (sg_name 7 sc_l_hand.nd)) (fun _ _ _ _ _ => pts_yes) (fun _ _ _ _ _ => pe_0 (se_call (ok_seen T) (hr.mono (by decide)) hgd rfl T.g_seen T.k_seen T.b_seen (sa_cons (se_var 3) (sa_cons (se_tup (sa_cons se_str (sa_cons se_str (sa_cons (se_var 7) sa_nil)))) (sa_cons (se_tup (sa_cons se_int (sa_cons se_int (sa_cons se_int (sa_cons se_int (sa_cons se_int (sa_cons se_int (sa_cons se_int (sa_cons se_int sa_nil))))))))) sa_nil)))))) (ss_cons (ss_if (st_cmp (op_ne' (hu64 hr)) (se_var 1) (se_bin op_mulT (se_lst (sa_cons (se_tup (sa_cons (se_tup (sa_cons se_int (sa_cons se_int (sa_cons se_int sa_nil)))) (sa_cons (se_tup (sa_cons se_int (sa_cons se_int (sa_cons se_non sa_nil)))) sa_nil))) sa_nil)) se_int)) (ss_one (ss_ret se_bl)) ss_nil) (ss_cons (ss_setLc 1 [("_law_tier", 7)] fin_fz rfl sc_l_hand.nd (si_seq (se_tup (sa_cons se_str (sa_cons se_str sa_nil)))) (blkOk_by (N := ["_law_two", "_law_rows", "_law_early", "_law_three", "_law_marks_here", "_law_lone", "_law_told", "_law_tier"]) (sc := defScope (top 50)) (by decide +kernel)) (fun _ _ _ _ _ => (sg_name 7 sc_l_hand.nd)) (fun _ _ _ _ _ => pts_yes) (fun _ _ _ _ _ => pe_0 (se_call (ok_seen T) (hr.mono (by decide)) hgd rfl T.g_seen T.k_seen T.b_seen (sa_cons (se_var 3) (sa_cons (se_tup (sa_cons (se_var 7) (sa_cons se_str (sa_cons se_str sa_nil)))) (sa_cons (se_tup (sa_cons se_int (sa_cons se_int (sa_cons se_int (sa_cons se_int (sa_cons se_int (sa_cons se_int (sa_cons se_int (sa_cons se_int sa_nil))))))))) sa_nil)))))) (ss_cons (ss_if (st_cmp (op_ne' (hu64 hr)) (se_var 1) (se_bin op_mulT (se_lst (sa_cons (se_tup (sa_cons (se_tup (sa_cons se_int (sa_cons se_int (sa_cons se_int sa_nil)))) (sa_cons (se_tup (sa_cons se_int (sa_cons se_int (sa_cons se_non sa_nil)))) sa_nil))) sa_nil)) se_int)) (ss_one (ss_ret se_bl)) ss_nil) (ss_cons (ss_set 4 sc_l_hand.nd (se_tup (sa_cons (se_tup (sa_cons (se_tup (sa_cons se_str (sa_cons se_str sa_nil))) sa_nil)) (sa_cons (se_tup (sa_cons (se_tup (sa_cons se_str (sa_cons se_str sa_nil))) (sa_cons (se_tup (sa_cons se_str (sa_cons se_str sa_nil))) sa_nil))) sa_nil)))) (ss_cons (ss_set 5 sc_l_hand.nd (se_tup (sa_cons (se_tup (sa_cons (se_tup (sa_cons se_str (sa_cons se_str sa_nil))) sa_nil)) sa_nil))) (ss_cons (ss_set 6 sc_l_hand.nd (se_lst (sa_cons (se_call (ok_seen T) (hr.mono (by decide)) hgd rfl T.g_seen T.k_seen T.b_seen (sa_cons (se_var 4) (sa_cons (se_tup (sa_cons se_str (sa_cons se_str sa_nil))) (sa_cons (se_tup (sa_cons se_int (sa_cons se_int (sa_cons se_int (sa_cons se_int (sa_cons se_int sa_nil)))))) sa_nil)))) (sa_cons (se_call (ok_seen T) (hr.mono (by decide)) hgd rfl T.g_seen T.k_seen T.b_seen (sa_cons (se_var 5) (sa_cons (se_tup (sa_cons se_str sa_nil)) (sa_cons (se_tup (sa_cons se_int (sa_cons se_int sa_nil))) sa_nil)))) sa_nil)))) (ss_one (ss_ret (se_cmp (op_eq' (hu64 hr)) (se_var 6) (se_lst (sa_cons (se_tup sa_nil) (sa_cons (se_tup (sa_cons (se_tup (sa_cons se_int (sa_cons se_int (sa_cons se_non sa_nil)))) sa_nil)) sa_nil))))))))))))))))))
theorem ok_l_hand (T : Txt K mg) : FnG P w K mg base 10 (He.ga K "_law_hand") (fdOf K (He.ga K "_law_hand")) [] m_l_hand := raw_l_hand T
/-! law -/
theorem sc_law : FnScope ["_law_script", "_law_k", "_law_m", "_law_crew_here", "_law_again", "_law_course_here"] ["_law_script"] (defScope (top 51)) := ⟨rfl, rfl, rfl, by decide +kernel, rfl, by decide +kernel, by decide +kernel⟩
theorem raw_law (T : Txt K mg) : FnG P w K mg base 11 (He.ga K "law") (fdOf K (He.ga K "law")) ["_law_script"] (bodyF 6 t_law) :=
  fn_g T.F_law sc_law fun cdv A outer s H E hr hgd => (ss_cons (ss_for passB rfl (si_range1 rfl T.f_range (se_bin op_add' se_int (se_callB (cl_min2 rfl) rfl T.f_min (by decide +kernel) (sa_cons (se_callB (cl_len) rfl T.f_len (by decide +kernel) (sa_cons (se_var 0) sa_nil)) (sa_cons se_int sa_nil))))) (sg_name 1 sc_law.nd) (ss_cons (ss_set 2 sc_law.nd (se_call (ok_l_begun T) (hr.mono (by decide)) hgd rfl T.g_l_begun T.k_l_begun T.b_l_begun (sa_cons (se_var 0) (sa_cons (se_var 1) sa_nil)))) (ss_cons (ss_set 3 sc_law.nd (se_call (ok_l_crew T) (hr.mono (by decide)) hgd rfl T.g_l_crew T.k_l_crew T.b_l_crew (sa_cons (se_var 2) (sa_cons se_int (sa_cons se_int sa_nil))))) (ss_one (ss_for passB rfl (si_range1 rfl T.f_range se_int) (sg_name 4 sc_law.nd) (ss_cons (ss_set 5 sc_law.nd (se_call (ok_l_course T) (hr.mono (by decide)) hgd rfl T.g_l_course T.k_l_course T.b_l_course (sa_cons (se_var 2) (sa_cons (se_var 3) sa_nil)))) (ss_cons (ss_if (PW.pt (st_or (st_not (st_val (se_call (ok_l_right T) (hr.mono (by decide)) hgd rfl T.g_l_right T.k_l_right T.b_l_right (sa_cons (se_var 3) (sa_cons (se_call (ok_l_tiers T) (hr.mono (by decide)) hgd rfl T.g_l_tiers T.k_l_tiers T.b_l_tiers (sa_cons (se_var 2) (sa_cons (se_var 3) sa_nil))) (sa_cons (se_var 5) sa_nil)))))) (st_or1 (st_not (st_val (se_call (ok_l_right T) (hr.mono (by decide)) hgd rfl T.g_l_right T.k_l_right T.b_l_right (sa_cons (se_var 3) (sa_cons (se_call (ok_l_tiers T) (hr.mono (by decide)) hgd rfl T.g_l_tiers T.k_l_tiers T.b_l_tiers (sa_cons (se_var 2) (sa_cons (se_var 3) sa_nil))) (sa_cons (se_var 5) sa_nil))))))))) (ss_one (ss_ret se_bl)) ss_nil) (ss_one (ss_if (st_not (st_val (se_call (ok_l_alike_right T) (hr.mono (by decide)) hgd rfl T.g_l_alike_right T.k_l_alike_right T.b_l_alike_right (sa_cons (se_var 3) (sa_cons (se_var 5) sa_nil))))) (ss_one (ss_ret se_bl)) ss_nil))))))))) (ss_one (ss_ret (se_call0 (ok_l_hand T) (hr.mono (by decide)) hgd rfl T.g_l_hand T.k_l_hand T.b_l_hand))))
theorem ok_law (T : Txt K mg) : FnG P w K mg base 11 (He.ga K "law") (fdOf K (He.ga K "law")) ["_law_script"] m_law := raw_law T
end K05

end

section
set_option maxHeartbeats 0
/-! The head: what stands behind the top. -/
namespace K05
open PySem PySem.Spec PyProof.Rows L2 MX
def dd0 : He.DefD := ⟨("is_whole", none), "is_whole", "is_whole", defArgs (top 16), defBody (top 16), defScope (top 16), [], []⟩
def dd1 : He.DefD := ⟨("is_thing", none), "is_thing", "is_thing", defArgs (top 17), defBody (top 17), defScope (top 17), [], []⟩
def dd2 : He.DefD := ⟨("is_step", none), "is_step", "is_step", defArgs (top 18), defBody (top 18), defScope (top 18), [], []⟩
def dd3 : He.DefD := ⟨("can_follow", none), "can_follow", "can_follow", defArgs (top 19), defBody (top 19), defScope (top 19), [], []⟩
def dd4 : He.DefD := ⟨("wrong_step", none), "wrong_step", "wrong_step", defArgs (top 20), defBody (top 20), defScope (top 20), [], []⟩
def dd5 : He.DefD := ⟨("wrong_place", none), "wrong_place", "wrong_place", defArgs (top 21), defBody (top 21), defScope (top 21), [], []⟩
def dd6 : He.DefD := ⟨("need_lot", none), "need_lot", "need_lot", defArgs (top 22), defBody (top 22), defScope (top 22), [], []⟩
def dd7 : He.DefD := ⟨("are_levels", none), "are_levels", "are_levels", defArgs (top 23), defBody (top 23), defScope (top 23), [], []⟩
def dd8 : He.DefD := ⟨("need_levels", none), "need_levels", "need_levels", defArgs (top 24), defBody (top 24), defScope (top 24), [], []⟩
def dd9 : He.DefD := ⟨("wrong_spot", none), "wrong_spot", "wrong_spot", defArgs (top 26), defBody (top 26), defScope (top 26), [], []⟩
def dd10 : He.DefD := ⟨("need_run", none), "need_run", "need_run", defArgs (top 27), defBody (top 27), defScope (top 27), [], []⟩
def dd11 : He.DefD := ⟨("times_of", none), "times_of", "times_of", defArgs (top 28), defBody (top 28), defScope (top 28), [], []⟩
def dd12 : He.DefD := ⟨("need_all", none), "need_all", "need_all", defArgs (top 30), defBody (top 30), defScope (top 30), [], []⟩
def dd13 : He.DefD := ⟨("markers", none), "markers", "markers", defArgs (top 31), defBody (top 31), defScope (top 31), [], []⟩
def dd14 : He.DefD := ⟨("sight_of", none), "sight_of", "sight_of", defArgs (top 32), defBody (top 32), defScope (top 32), [], []⟩
def dd15 : He.DefD := ⟨("seen_in", none), "seen_in", "seen_in", defArgs (top 33), defBody (top 33), defScope (top 33), [], []⟩
def dd16 : He.DefD := ⟨("seen", none), "seen", "seen", defArgs (top 34), defBody (top 34), defScope (top 34), [], []⟩
def dd17 : He.DefD := ⟨("_law_begun", none), "_law_begun", "_law_begun", defArgs (top 36), defBody (top 36), defScope (top 36), [], []⟩
def dd18 : He.DefD := ⟨("_law_draw", none), "_law_draw", "_law_draw", defArgs (top 37), defBody (top 37), defScope (top 37), [], []⟩
def dd19 : He.DefD := ⟨("_law_of", none), "_law_of", "_law_of", defArgs (top 38), defBody (top 38), defScope (top 38), [], []⟩
def dd20 : He.DefD := ⟨("_law_deed", none), "_law_deed", "_law_deed", defArgs (top 39), defBody (top 39), defScope (top 39), [], []⟩
def dd21 : He.DefD := ⟨("_law_crew", none), "_law_crew", "_law_crew", defArgs (top 40), defBody (top 40), defScope (top 40), [], []⟩
def dd22 : He.DefD := ⟨("_law_tiers", none), "_law_tiers", "_law_tiers", defArgs (top 41), defBody (top 41), defScope (top 41), [], []⟩
def dd23 : He.DefD := ⟨("_law_course", none), "_law_course", "_law_course", defArgs (top 42), defBody (top 42), defScope (top 42), [], []⟩
def dd24 : He.DefD := ⟨("_law_clocks", none), "_law_clocks", "_law_clocks", defArgs (top 43), defBody (top 43), defScope (top 43), [], []⟩
def dd25 : He.DefD := ⟨("_law_marks", none), "_law_marks", "_law_marks", defArgs (top 44), defBody (top 44), defScope (top 44), [], []⟩
def dd26 : He.DefD := ⟨("_law_sight", none), "_law_sight", "_law_sight", defArgs (top 45), defBody (top 45), defScope (top 45), [], []⟩
def dd27 : He.DefD := ⟨("_law_looks", none), "_law_looks", "_law_looks", defArgs (top 46), defBody (top 46), defScope (top 46), [], []⟩
def dd28 : He.DefD := ⟨("_law_due", none), "_law_due", "_law_due", defArgs (top 47), defBody (top 47), defScope (top 47), [], []⟩
def dd29 : He.DefD := ⟨("_law_right", none), "_law_right", "_law_right", defArgs (top 48), defBody (top 48), defScope (top 48), [], []⟩
def dd30 : He.DefD := ⟨("_law_alike_right", none), "_law_alike_right", "_law_alike_right", defArgs (top 49), defBody (top 49), defScope (top 49), [], []⟩
def dd31 : He.DefD := ⟨("_law_hand", none), "_law_hand", "_law_hand", defArgs (top 50), defBody (top 50), defScope (top 50), [], []⟩
def dd32 : He.DefD := ⟨("law", none), "law", "law", defArgs (top 51), defBody (top 51), defScope (top 51), [], []⟩
def fn : List He.DefD := ([dd0, dd1, dd2, dd3, dd4, dd5, dd6, dd7, dd8, dd9, dd10, dd11, dd12, dd13, dd14, dd15, dd16, dd17, dd18, dd19, dd20, dd21, dd22, dd23, dd24, dd25, dd26, dd27, dd28, dd29] : List He.DefD) ++ ([dd30, dd31, dd32] : List He.DefD)
def fa : List He.Fa := ([.free "all", .free "bool", .free "enumerate", .free "int", .free "isinstance", .free "len", .free "max", .free "min", .free "range", .free "repr", .free "str", .free "sum", .free "tuple", .str "LATE" "late", .str "LETTERS" "abcdefghijklmnopqrstuvwxyz", .glo "LEVELS", .str "LOOK" "look", .str "MARK" "mark", .int "MOST_DEEDS" 5, .int "MOST_LETTERS" 3, .int "MOST_STEPS" 5, .glo "is_whole", .glo "is_thing", .glo "is_step", .glo "can_follow", .glo "wrong_step", .glo "wrong_place", .glo "need_lot", .glo "are_levels", .glo "need_levels"] : List He.Fa) ++ ([.glo "wrong_spot", .glo "need_run", .glo "times_of", .glo "need_all", .glo "markers", .glo "sight_of", .glo "seen_in", .glo "seen", .glo "_law_begun", .glo "_law_draw", .glo "_law_of", .glo "_law_deed", .glo "_law_crew", .glo "_law_tiers", .glo "_law_course", .glo "_law_clocks", .glo "_law_marks", .glo "_law_sight", .glo "_law_looks", .glo "_law_due", .glo "_law_right", .glo "_law_alike_right", .glo "_law_hand", .glo "law"] : List He.Fa)
def bx (K : PySem.W.Frag) : Bool := (He.tupB K "LEVELS" [.str "late", .str "early", .str "guarded"] && true)
def loose : List Str := (["LevelError", "BadLot", "BadLevels", "BadRun", "LETTERS", "MOST_LETTERS", "MOST_DEEDS", "MOST_STEPS", "LOOK", "MARK", "LATE", "EARLY", "GUARDED", "LEVELS", "is_whole", "is_thing", "is_step", "can_follow", "wrong_step", "wrong_place", "need_lot", "are_levels", "need_levels", "wrong_spot", "need_run", "times_of", "need_all", "markers", "sight_of", "seen_in"] : List Str) ++ (["seen", "_law_begun", "_law_draw", "_law_of", "_law_deed", "_law_crew", "_law_tiers", "_law_course", "_law_clocks", "_law_marks", "_law_sight", "_law_looks", "_law_due", "_law_right", "_law_alike_right", "_law_hand"] : List Str)
abbrev R : PySem.W.OpenRow := PySem.W.OpenLaw.row PySem.Challenge.rw_mixedlevels_k05_whole_sights
abbrev hk : PySem.W.Hook := He.hookM 4 fa fn bx
def ob (s : PySem.W.SharedT) : He.AlM := He.obsMG 4 fa fn bx (HandSHeadRun.getT s)
theorem ob_eq (s : PySem.W.SharedT) : ob s = hk.obs s.abs := He.obsMG_eq (HandSHeadRun.getT_eq s)
theorem run (w : World) : HandSHeadRun.RunEq R (PySem.W.view R.prog [51]) hk ob 4000 loose w := by
  intro os
  kernel_rfl
theorem txt {K : PySem.W.Frag} {h : Heap} {mg : Str → Option Value} (X : K.In h) (G : h.Ns mainGlobals mg) (c : He.SaysM fa fn bx K) : Txt K mg := by
  have F0 := (c.d.def_ 0 (d := dd0) rfl).elim fun fd F => MX.FunD.toOf F
  have F1 := (c.d.def_ 1 (d := dd1) rfl).elim fun fd F => MX.FunD.toOf F
  have F2 := (c.d.def_ 2 (d := dd2) rfl).elim fun fd F => MX.FunD.toOf F
  have F3 := (c.d.def_ 3 (d := dd3) rfl).elim fun fd F => MX.FunD.toOf F
  have F4 := (c.d.def_ 4 (d := dd4) rfl).elim fun fd F => MX.FunD.toOf F
  have F5 := (c.d.def_ 5 (d := dd5) rfl).elim fun fd F => MX.FunD.toOf F
  have F6 := (c.d.def_ 6 (d := dd6) rfl).elim fun fd F => MX.FunD.toOf F
  have F7 := (c.d.def_ 7 (d := dd7) rfl).elim fun fd F => MX.FunD.toOf F
  have F8 := (c.d.def_ 8 (d := dd8) rfl).elim fun fd F => MX.FunD.toOf F
  have F9 := (c.d.def_ 9 (d := dd9) rfl).elim fun fd F => MX.FunD.toOf F
  have F10 := (c.d.def_ 10 (d := dd10) rfl).elim fun fd F => MX.FunD.toOf F
  have F11 := (c.d.def_ 11 (d := dd11) rfl).elim fun fd F => MX.FunD.toOf F
  have F12 := (c.d.def_ 12 (d := dd12) rfl).elim fun fd F => MX.FunD.toOf F
  have F13 := (c.d.def_ 13 (d := dd13) rfl).elim fun fd F => MX.FunD.toOf F
  have F14 := (c.d.def_ 14 (d := dd14) rfl).elim fun fd F => MX.FunD.toOf F
  have F15 := (c.d.def_ 15 (d := dd15) rfl).elim fun fd F => MX.FunD.toOf F
  have F16 := (c.d.def_ 16 (d := dd16) rfl).elim fun fd F => MX.FunD.toOf F
  have F17 := (c.d.def_ 17 (d := dd17) rfl).elim fun fd F => MX.FunD.toOf F
  have F18 := (c.d.def_ 18 (d := dd18) rfl).elim fun fd F => MX.FunD.toOf F
  have F19 := (c.d.def_ 19 (d := dd19) rfl).elim fun fd F => MX.FunD.toOf F
  have F20 := (c.d.def_ 20 (d := dd20) rfl).elim fun fd F => MX.FunD.toOf F
  have F21 := (c.d.def_ 21 (d := dd21) rfl).elim fun fd F => MX.FunD.toOf F
  have F22 := (c.d.def_ 22 (d := dd22) rfl).elim fun fd F => MX.FunD.toOf F
  have F23 := (c.d.def_ 23 (d := dd23) rfl).elim fun fd F => MX.FunD.toOf F
  have F24 := (c.d.def_ 24 (d := dd24) rfl).elim fun fd F => MX.FunD.toOf F
  have F25 := (c.d.def_ 25 (d := dd25) rfl).elim fun fd F => MX.FunD.toOf F
  have F26 := (c.d.def_ 26 (d := dd26) rfl).elim fun fd F => MX.FunD.toOf F
  have F27 := (c.d.def_ 27 (d := dd27) rfl).elim fun fd F => MX.FunD.toOf F
  have F28 := (c.d.def_ 28 (d := dd28) rfl).elim fun fd F => MX.FunD.toOf F
  have F29 := (c.d.def_ 29 (d := dd29) rfl).elim fun fd F => MX.FunD.toOf F
  have F30 := (c.d.def_ 30 (d := dd30) rfl).elim fun fd F => MX.FunD.toOf F
  have F31 := (c.d.def_ 31 (d := dd31) rfl).elim fun fd F => MX.FunD.toOf F
  have F32 := (c.d.def_ 32 (d := dd32) rfl).elim fun fd F => MX.FunD.toOf F
  have cb := c.b
  simp only [bx, Bool.and_eq_true] at cb
  exact {
    f_all := He.free_ok X G (c.d.fact 0 rfl)
    f_bool := He.free_ok X G (c.d.fact 1 rfl)
    f_enumerate := He.free_ok X G (c.d.fact 2 rfl)
    f_int := He.free_ok X G (c.d.fact 3 rfl)
    f_isinstance := He.free_ok X G (c.d.fact 4 rfl)
    f_len := He.free_ok X G (c.d.fact 5 rfl)
    f_max := He.free_ok X G (c.d.fact 6 rfl)
    f_min := He.free_ok X G (c.d.fact 7 rfl)
    f_range := He.free_ok X G (c.d.fact 8 rfl)
    f_repr := He.free_ok X G (c.d.fact 9 rfl)
    f_str := He.free_ok X G (c.d.fact 10 rfl)
    f_sum := He.free_ok X G (c.d.fact 11 rfl)
    f_tuple := He.free_ok X G (c.d.fact 12 rfl)
    c_LATE := He.str_ok X G (c.d.fact 13 rfl)
    c_LETTERS := He.str_ok X G (c.d.fact 14 rfl)
    c_LEVELS := ⟨_, He.glo_ok X G (c.d.fact 15 rfl), fun H => He.tupB_ok cb.1 H⟩
    c_LOOK := He.str_ok X G (c.d.fact 16 rfl)
    c_MARK := He.str_ok X G (c.d.fact 17 rfl)
    c_MOST_DEEDS := He.int_ok X G (c.d.fact 18 rfl)
    c_MOST_LETTERS := He.int_ok X G (c.d.fact 19 rfl)
    c_MOST_STEPS := He.int_ok X G (c.d.fact 20 rfl)
    g_is_whole := He.glo_ok X G (c.d.fact 21 rfl)
    F_is_whole := F0
    b_is_whole := FunD.bindsN F0 fun _ _ _ _ _ _ us hl => match us, hl with | [_, _, _], _ => rfl
    g_is_thing := He.glo_ok X G (c.d.fact 22 rfl)
    F_is_thing := F1
    b_is_thing := FunD.bindsN F1 fun _ _ _ _ _ _ us hl => match us, hl with | [_], _ => rfl
    g_is_step := He.glo_ok X G (c.d.fact 23 rfl)
    F_is_step := F2
    b_is_step := FunD.bindsN F2 fun _ _ _ _ _ _ us hl => match us, hl with | [_], _ => rfl
    g_can_follow := He.glo_ok X G (c.d.fact 24 rfl)
    F_can_follow := F3
    b_can_follow := FunD.bindsN F3 fun _ _ _ _ _ _ us hl => match us, hl with | [_, _], _ => rfl
    g_wrong_step := He.glo_ok X G (c.d.fact 25 rfl)
    F_wrong_step := F4
    b_wrong_step := FunD.bindsN F4 fun _ _ _ _ _ _ us hl => match us, hl with | [_], _ => rfl
    g_wrong_place := He.glo_ok X G (c.d.fact 26 rfl)
    F_wrong_place := F5
    b_wrong_place := FunD.bindsN F5 fun _ _ _ _ _ _ us hl => match us, hl with | [_], _ => rfl
    g_need_lot := He.glo_ok X G (c.d.fact 27 rfl)
    F_need_lot := F6
    b_need_lot := FunD.bindsN F6 fun _ _ _ _ _ _ us hl => match us, hl with | [_], _ => rfl
    g_are_levels := He.glo_ok X G (c.d.fact 28 rfl)
    F_are_levels := F7
    b_are_levels := FunD.bindsN F7 fun _ _ _ _ _ _ us hl => match us, hl with | [_, _], _ => rfl
    g_need_levels := He.glo_ok X G (c.d.fact 29 rfl)
    F_need_levels := F8
    b_need_levels := FunD.bindsN F8 fun _ _ _ _ _ _ us hl => match us, hl with | [_, _], _ => rfl
    g_wrong_spot := He.glo_ok X G (c.d.fact 30 rfl)
    F_wrong_spot := F9
    b_wrong_spot := FunD.bindsN F9 fun _ _ _ _ _ _ us hl => match us, hl with | [_, _], _ => rfl
    g_need_run := He.glo_ok X G (c.d.fact 31 rfl)
    F_need_run := F10
    b_need_run := FunD.bindsN F10 fun _ _ _ _ _ _ us hl => match us, hl with | [_, _], _ => rfl
    g_times_of := He.glo_ok X G (c.d.fact 32 rfl)
    F_times_of := F11
    b_times_of := FunD.bindsN F11 fun _ _ _ _ _ _ us hl => match us, hl with | [_, _], _ => rfl
    g_need_all := He.glo_ok X G (c.d.fact 33 rfl)
    F_need_all := F12
    b_need_all := FunD.bindsN F12 fun _ _ _ _ _ _ us hl => match us, hl with | [_, _, _], _ => rfl
    g_markers := He.glo_ok X G (c.d.fact 34 rfl)
    F_markers := F13
    b_markers := FunD.bindsN F13 fun _ _ _ _ _ _ us hl => match us, hl with | [_, _, _], _ => rfl
    g_sight_of := He.glo_ok X G (c.d.fact 35 rfl)
    F_sight_of := F14
    b_sight_of := FunD.bindsN F14 fun _ _ _ _ _ _ us hl => match us, hl with | [_, _, _, _, _], _ => rfl
    g_seen_in := He.glo_ok X G (c.d.fact 36 rfl)
    F_seen_in := F15
    b_seen_in := FunD.bindsN F15 fun _ _ _ _ _ _ us hl => match us, hl with | [_, _, _], _ => rfl
    g_seen := He.glo_ok X G (c.d.fact 37 rfl)
    F_seen := F16
    b_seen := FunD.bindsN F16 fun _ _ _ _ _ _ us hl => match us, hl with | [_, _, _], _ => rfl
    g_l_begun := He.glo_ok X G (c.d.fact 38 rfl)
    F_l_begun := F17
    b_l_begun := FunD.bindsN F17 fun _ _ _ _ _ _ us hl => match us, hl with | [_, _], _ => rfl
    g_l_draw := He.glo_ok X G (c.d.fact 39 rfl)
    F_l_draw := F18
    b_l_draw := FunD.bindsN F18 fun _ _ _ _ _ _ us hl => match us, hl with | [_, _], _ => rfl
    g_l_of := He.glo_ok X G (c.d.fact 40 rfl)
    F_l_of := F19
    b_l_of := FunD.bindsN F19 fun _ _ _ _ _ _ us hl => match us, hl with | [_, _], _ => rfl
    g_l_deed := He.glo_ok X G (c.d.fact 41 rfl)
    F_l_deed := F20
    b_l_deed := FunD.bindsN F20 fun _ _ _ _ _ _ us hl => match us, hl with | [_, _, _], _ => rfl
    g_l_crew := He.glo_ok X G (c.d.fact 42 rfl)
    F_l_crew := F21
    b_l_crew := FunD.bindsN F21 fun _ _ _ _ _ _ us hl => match us, hl with | [_, _, _], _ => rfl
    g_l_tiers := He.glo_ok X G (c.d.fact 43 rfl)
    F_l_tiers := F22
    b_l_tiers := FunD.bindsN F22 fun _ _ _ _ _ _ us hl => match us, hl with | [_, _], _ => rfl
    g_l_course := He.glo_ok X G (c.d.fact 44 rfl)
    F_l_course := F23
    b_l_course := FunD.bindsN F23 fun _ _ _ _ _ _ us hl => match us, hl with | [_, _], _ => rfl
    g_l_clocks := He.glo_ok X G (c.d.fact 45 rfl)
    F_l_clocks := F24
    b_l_clocks := FunD.bindsN F24 fun _ _ _ _ _ _ us hl => match us, hl with | [_, _], _ => rfl
    g_l_marks := He.glo_ok X G (c.d.fact 46 rfl)
    F_l_marks := F25
    b_l_marks := FunD.bindsN F25 fun _ _ _ _ _ _ us hl => match us, hl with | [_, _], _ => rfl
    g_l_sight := He.glo_ok X G (c.d.fact 47 rfl)
    F_l_sight := F26
    b_l_sight := FunD.bindsN F26 fun _ _ _ _ _ _ us hl => match us, hl with | [_, _, _, _, _], _ => rfl
    g_l_looks := He.glo_ok X G (c.d.fact 48 rfl)
    F_l_looks := F27
    b_l_looks := FunD.bindsN F27 fun _ _ _ _ _ _ us hl => match us, hl with | [_], _ => rfl
    g_l_due := He.glo_ok X G (c.d.fact 49 rfl)
    F_l_due := F28
    b_l_due := FunD.bindsN F28 fun _ _ _ _ _ _ us hl => match us, hl with | [_, _, _], _ => rfl
    g_l_right := He.glo_ok X G (c.d.fact 50 rfl)
    F_l_right := F29
    b_l_right := FunD.bindsN F29 fun _ _ _ _ _ _ us hl => match us, hl with | [_, _, _], _ => rfl
    g_l_alike_right := He.glo_ok X G (c.d.fact 51 rfl)
    F_l_alike_right := F30
    b_l_alike_right := FunD.bindsN F30 fun _ _ _ _ _ _ us hl => match us, hl with | [_, _], _ => rfl
    g_l_hand := He.glo_ok X G (c.d.fact 52 rfl)
    F_l_hand := F31
    b_l_hand := FunD.bindsN F31 fun _ _ _ _ _ _ us hl => match us, hl with | [], _ => rfl
    g_law := He.glo_ok X G (c.d.fact 53 rfl)
    F_law := F32
    b_law := FunD.bindsN F32 fun _ _ _ _ _ _ us hl => match us, hl with | [_], _ => rfl
  }
end K05

end

section
/-! Plain mathematics of the readings: small data, loops. -/
namespace MX
open PySem PySem.Spec PyProof.Rows L2

/-! ### small data -/
mutual
def sm : PV → Bool
  | .non => true
  | .bl _ => true
  | .int i => decide (i.natAbs < 10 ^ 18)
  | .str x => PyData.strOk x
  | .tup xs => sms xs
  | .lst xs => sms xs
  | .ref _ => false
def sms : List PV → Bool
  | [] => true
  | x :: xs => sm x && sms xs
end
mutual
def wt : PV → Nat
  | .non => 4
  | .bl _ => 5
  | .int _ => 20
  | .str x => 10 * x.length + 2
  | .tup xs => wts xs + 3
  | .lst xs => wts xs + 3
  | .ref _ => 0
def wts : List PV → Nat
  | [] => 0
  | x :: xs => wt x + 2 + wts xs
end
mutual
def dp : PV → Nat
  | .tup xs => dps xs + 1
  | .lst xs => dps xs + 1
  | _ => 0
def dps : List PV → Nat
  | [] => 0
  | x :: xs => max (dp x) (dps xs)
end
mutual
/-- the data itself -/
def dt : PV → PyData
  | .non => .none
  | .bl b => .bool b
  | .int i => .int i
  | .str x => .str x
  | .tup xs => .tuple (dts xs)
  | .lst xs => .list (dts xs)
  | .ref _ => .none
def dts : List PV → List PyData
  | [] => []
  | x :: xs => dt x :: dts xs
end
theorem dts_map : ∀ xs : List PV, dts xs = xs.map dt
  | [] => rfl
  | x :: xs => by rw [dts, dts_map xs]; rfl
theorem sms_all : ∀ {xs : List PV}, sms xs = true ↔ ∀ x ∈ xs, sm x = true
  | [] => by simp [sms]
  | x :: xs => by simp [sms, sms_all (xs := xs)]
theorem text_len {i : Int} (h : i.natAbs < 10 ^ 18) : (Str.ofString (toString i)).length ≤ 19 := by
  by_cases h0 : 0 ≤ i
  · exact Nat.le_trans (toString_length_le (k := 18) h0 (by decide) (by omega)) (by decide)
  · have h1 : i < 0 := by omega
    have h2 := len_text_negI h1
    have h3 := toString_length_le (v := 0 - i) (k := 18) (by omega) (by decide) (by omega)
    omega
theorem textFrom_le : ∀ (ts : List Str) (k : Nat) (acc : Str), (PySem.textFrom k acc ts).length ≤ acc.length + PySem.piled ts
  | [], k, acc => Nat.le_add_right _ _
  | t :: ts, k, acc => by
    have := textFrom_le ts (k + 1) (acc ++ (if k > 0 then ", " else "" : String) ++ t)
    rw [PySem.piled_cons]
    have e : (acc ++ (if k > 0 then ", " else "" : String) ++ t).length ≤ acc.length + 2 + t.length := by
      rw [strLen_append, strLen_append]
      by_cases hk : k > 0
      · rw [if_pos hk]
        have : (Str.ofString ", ").length = 2 := rfl
        omega
      · rw [if_neg hk]
        have : (Str.ofString "").length = 0 := rfl
        omega
    show (PySem.textFrom (k + 1) _ ts).length ≤ _
    omega
theorem listText_le (ts : List Str) : (PySem.listText ts).length ≤ PySem.piled ts + 2 := by
  unfold PySem.listText
  rw [strLen_append]
  have := textFrom_le ts 0 "["
  have e1 : (Str.ofString "[").length = 1 := rfl
  have e2 : (Str.ofString "]").length = 1 := rfl
  omega
theorem tupleText_le (ts : List Str) : (PySem.tupleText ts).length ≤ PySem.piled ts + 3 := by
  unfold PySem.tupleText
  rw [strLen_append, strLen_append]
  have e1 : (Str.ofString "(").length = 1 := rfl
  have e2 : (Str.ofString (if ts.length == 1 then ",)" else ")")).length ≤ 2 := by split <;> decide
  have e3 : (Str.join ", " ts).length ≤ PySem.piled ts := by
    cases ts with
    | nil => exact Nat.zero_le _
    | cons a r => have := PySem.join_length_add (a :: r) (by simp); omega
  omega
mutual
theorem sm_ok : ∀ (v : PV), sm v = true → toD v = some (dt v) ∧ (dt v).showable = true ∧ (dt v).canLay0 = true ∧ (dt v).depth ≤ dp v ∧ (dt v).shown.length ≤ wt v
  | .non, _ => ⟨rfl, rfl, rfl, Nat.le_refl _, by show (Str.ofString "None").length ≤ 4; decide⟩
  | .bl b, _ => ⟨rfl, rfl, rfl, Nat.le_refl _, by cases b <;> decide⟩
  | .int i, h => by
    have h' : i.natAbs < 10 ^ 18 := of_decide_eq_true (by simpa only [sm] using h)
    refine ⟨rfl, ?_, rfl, Nat.le_refl _, Nat.le_trans (text_len h') (by simp [wt])⟩
    show decide (i.natAbs.log2 < 1920) = true
    refine decide_eq_true ?_
    by_cases h0 : i.natAbs = 0
    · rw [h0]; decide
    · refine (Nat.log2_lt h0).mpr (Nat.lt_of_lt_of_le h' ?_)
      exact Nat.le_trans (by decide : 10 ^ 18 ≤ 2 ^ 60) (Nat.pow_le_pow_right (by decide) (by decide))
  | .str x, h => by
    have h' : PyData.strOk x = true := by simpa only [sm] using h
    refine ⟨rfl, rfl, ?_, Nat.le_refl _, ?_⟩
    · simpa only [dt, PyData.canLay0] using h'
    · have := StrLaws.reprText_len x fun c hc => by
        have := Array.all_eq_true'.mp h' c (Array.mem_toList_iff.mp hc)
        have := of_decide_eq_true this
        omega
      simpa only [wt, dt, PyData.shown] using this
  | .tup xs, h => by
    obtain ⟨h1, h2, h3, h4, h5⟩ := sms_ok xs (by simpa only [sm] using h)
    refine ⟨by rw [toD, h1]; rfl, by simpa only [dt, PyData.showable] using h2, by simpa only [dt, PyData.canLay0] using h3, ?_, ?_⟩
    · simp only [dt, PyData.depth, dp]; omega
    · simp only [dt, PyData.shown, wt]
      exact Nat.le_trans (tupleText_le _) (by omega)
  | .lst xs, h => by
    obtain ⟨h1, h2, h3, h4, h5⟩ := sms_ok xs (by simpa only [sm] using h)
    refine ⟨by rw [toD, h1]; rfl, by simpa only [dt, PyData.showable] using h2, by simpa only [dt, PyData.canLay0] using h3, ?_, ?_⟩
    · simp only [dt, PyData.depth, dp]; omega
    · simp only [dt, PyData.shown, wt]
      exact Nat.le_trans (listText_le _) (by omega)
  | .ref _, h => by simp [sm] at h
theorem sms_ok : ∀ (xs : List PV), sms xs = true → toDs xs = some (dts xs) ∧ PyData.showableAll (dts xs) = true ∧ PyData.canLayAll0 (dts xs) = true ∧ PyData.depthAll (dts xs) ≤ dps xs ∧ PySem.piled (PyData.shownAll (dts xs)) ≤ wts xs
  | [], _ => ⟨rfl, rfl, rfl, Nat.le_refl _, Nat.le_refl _⟩
  | x :: xs, h => by
    have h' : sm x = true ∧ sms xs = true := by simpa only [sms, Bool.and_eq_true] using h
    obtain ⟨a1, a2, a3, a4, a5⟩ := sm_ok x h'.1
    obtain ⟨b1, b2, b3, b4, b5⟩ := sms_ok xs h'.2
    refine ⟨by rw [toDs, a1, b1]; rfl, by simp only [dts, PyData.showableAll, a2, b2]; rfl, by simp only [dts, PyData.canLayAll0, a3, b3]; rfl, ?_, ?_⟩
    · simp only [dts, PyData.depthAll, dps]; omega
    · simp only [dts, PyData.shownAll, PySem.piled_cons, wts]; omega
end
theorem dOf_sm {S : Sto} {v : PV} (h : sm v = true) : dOf S v = some (dt v) := by
  cases v with
  | ref n => simp [sm] at h
  | _ => exact (sm_ok _ h).1
theorem vRepr_sm {S : Sto} {v : PV} (h : sm v = true) (h2 : dp v ≤ 64) (h3 : wt v ≤ sizeLine) : vRepr [v] S = some (.str (dt v).shown, S) := by
  obtain ⟨a1, a2, a3, a4, a5⟩ := sm_ok v h
  simp only [vRepr, dOf_sm h]
  exact if_pos ⟨a2, PyData.hasDict_of_canLay _ a3, by omega, by omega⟩
theorem shaped_sm {v : PV} (h : sm v = true) (h2 : dp v ≤ 64) : SeqAt.shaped (dt v) = true := by
  obtain ⟨a1, a2, a3, a4, a5⟩ := sm_ok v h
  unfold SeqAt.shaped
  rw [a3, decide_eq_true (by omega : (dt v).depth ≤ 64)]; rfl
theorem vEq_sm {S : Sto} {a b : PV} (h : sm a = true) (h2 : dp a ≤ 64) (k : sm b = true) (k2 : dp b ≤ 64) : vEq a b S = some (.bl (PyData.eqv (dt a) (dt b)), S) := by
  simp only [vEq, dOf_sm h, dOf_sm k]
  exact if_pos ⟨shaped_sm h h2, shaped_sm k k2⟩
theorem vNe_sm {S : Sto} {a b : PV} (h : sm a = true) (h2 : dp a ≤ 64) (k : sm b = true) (k2 : dp b ≤ 64) : vNe a b S = some (.bl (!PyData.eqv (dt a) (dt b)), S) := by
  simp only [vNe, dOf_sm h, dOf_sm k]
  exact if_pos ⟨shaped_sm h h2, shaped_sm k k2⟩
mutual
theorem eqv_self : ∀ d : PyData, d.canLay0 = true → PyData.eqv d d = true
  | .none, _ => rfl
  | .bool b, _ => by simp [PyData.eqv]
  | .int i, _ => by simp [PyData.eqv]
  | .str x, _ => by simp [PyData.eqv]
  | .list xs, h => by rw [PyData.eqv]; exact eqvAll_self xs (by simpa only [PyData.canLay0] using h)
  | .tuple xs, h => by rw [PyData.eqv]; exact eqvAll_self xs (by simpa only [PyData.canLay0] using h)
  | .dict _, h => by simp [PyData.canLay0] at h
theorem eqvAll_self : ∀ xs : List PyData, PyData.canLayAll0 xs = true → PyData.eqvAll xs xs = true
  | [], _ => rfl
  | x :: xs, h => by
    have h' : x.canLay0 = true ∧ PyData.canLayAll0 xs = true := by simpa only [PyData.canLayAll0, Bool.and_eq_true] using h
    rw [PyData.eqvAll, eqv_self x h'.1, eqvAll_self xs h'.2]; rfl
end
theorem vEq_self {S : Sto} {a : PV} (h : sm a = true) (h2 : dp a ≤ 64) : vEq a a S = some (.bl true, S) := by
  rw [vEq_sm h h2 h h2, eqv_self _ (sm_ok a h).2.2.1]
theorem vNe_self {S : Sto} {a : PV} (h : sm a = true) (h2 : dp a ≤ 64) : vNe a a S = some (.bl false, S) := by
  rw [vNe_sm h h2 h h2, eqv_self _ (sm_ok a h).2.2.1]; rfl
theorem vIn_tup {S : Sto} {a : PV} {xs : List PV} (h : sm a = true) (h2 : dp a ≤ 64) (k : sms xs = true) (k2 : dps xs < 64) : vIn a (.tup xs) S = some (.bl ((dts xs).any fun z => PyData.eqv z (dt a)), S) := by
  have e : inAns S a (.tup xs) = some ((dts xs).any fun z => PyData.eqv z (dt a)) := by
    have k' : sm (.tup xs) = true := by simpa only [sm] using k
    have h3 := shaped_sm h h2
    have k3 := shaped_sm k' (by simp only [dp]; omega)
    have d1 := dOf_sm (S := S) h
    have d2 := dOf_sm (S := S) k'
    unfold inAns
    split
    · rename_i e1; cases e1
    · rw [d1, d2]
      exact if_pos ⟨h3, k3⟩
  unfold vIn
  rw [e]; rfl

/-! ### loops -/
theorem forL_inv {t : Sg} {b : Ss} (I : Nat → Sl → Sto → Prop) : ∀ (xs : List PV) (i : Nat) (sp : Sl) (S : Sto),
    (∀ j x sp S, xs[j]? = some x → I (i + j) sp S → ∃ sp1 sp' S', t x sp S = some sp1 ∧ (b sp1 S = .nx sp' S' ∨ b sp1 S = .ct sp' S') ∧ I (i + j + 1) sp' S') → I i sp S →
    ∃ sp' S', forL t b xs sp S = .nx sp' S' ∧ I (i + xs.length) sp' S'
  | [], i, sp, S, _, h0 => ⟨sp, S, rfl, h0⟩
  | x :: xs, i, sp, S, h, h0 => by
    obtain ⟨sp1, sp', S', e1, e2, h1⟩ := h 0 x sp S rfl h0
    obtain ⟨sp2, S2, e3, h2⟩ := forL_inv I xs (i + 1) sp' S' (fun j y sp S hy hj => by
      have := h (j + 1) y sp S (by simpa using hy) (by rw [show i + (j + 1) = i + 1 + j by omega]; exact hj)
      rw [show i + (j + 1) + 1 = i + 1 + j + 1 by omega] at this
      exact this) h1
    refine ⟨sp2, S2, ?_, by rw [List.length_cons, show i + (xs.length + 1) = i + 1 + xs.length by omega]; exact h2⟩
    simp only [forL, e1]
    rcases e2 with e2 | e2 <;> rw [e2] <;> exact e3
/-- from the first turn on -/
theorem forL_inv0 {t : Sg} {b : Ss} (I : Nat → Sl → Sto → Prop) {xs : List PV} {sp : Sl} {S : Sto} (h0 : I 0 sp S)
    (h : ∀ j x sp S, xs[j]? = some x → I j sp S → ∃ sp1 sp' S', t x sp S = some sp1 ∧ (b sp1 S = .nx sp' S' ∨ b sp1 S = .ct sp' S') ∧ I (j + 1) sp' S') :
    ∃ sp' S', forL t b xs sp S = .nx sp' S' ∧ I xs.length sp' S' := by
  have := forL_inv I xs 0 sp S (fun j x sp S hx hj => by rw [Nat.zero_add] at hj ⊢; exact h j x sp S hx hj) h0
  rwa [Nat.zero_add] at this
theorem whileN_inv {c : St'} {b : Ss} (I : Nat → Sl → Sto → Prop) (Q : Sl → Sto → Prop)
    (h : ∀ n sp S, I n sp S → ∃ k S1, c sp S = .ok k S1 ∧ (k = false → Q sp S1) ∧ (k = true → ∃ sp' S' m, (b sp S1 = .nx sp' S' ∨ b sp S1 = .ct sp' S') ∧ m < n ∧ I m sp' S')) :
    ∀ (f n : Nat) (sp : Sl) (S : Sto), n < f → I n sp S → ∃ sp' S', whileN c b f sp S = .nx sp' S' ∧ Q sp' S'
  | 0, n, _, _, hn, _ => by omega
  | f + 1, n, sp, S, hn, hI => by
    obtain ⟨k, S1, e1, h1, h2⟩ := h n sp S hI
    cases k with
    | false => exact ⟨sp, S1, by simp [whileN, e1, bindS], h1 rfl⟩
    | true =>
      obtain ⟨sp', S', m, e2, hm, hI'⟩ := h2 rfl
      obtain ⟨sp2, S2, e3, h3⟩ := whileN_inv I Q h f m sp' S' (by omega) hI'
      refine ⟨sp2, S2, ?_, h3⟩
      rcases e2 with e2 | e2 <;> simp [whileN, e1, bindS, e2, e3]
theorem lcL_map {α : Type} {sp : Sl} {t : Sg} {c : St'} {te : Sx} {S : Sto} (emb f : α → PV) (p : α → Bool) : ∀ l : List α,
    (∀ a ∈ l, ∃ sp1, t (emb a) sp S = some sp1 ∧ c sp1 S = .ok (p a) S ∧ (p a = true → te sp1 S = .ok (f a) S)) → lcL sp t c te (l.map emb) S = .ok ((l.filter p).map f) S
  | [], _ => rfl
  | a :: l, h => by
    obtain ⟨sp1, e1, e2, e3⟩ := h a (List.mem_cons_self ..)
    have ih := lcL_map emb f p l fun x hx => h x (List.mem_cons_of_mem _ hx)
    simp only [List.map_cons, lcL, e1, e2, Out.pure]
    cases hp : p a with
    | true => simp [e3 hp, ih, hp]
    | false => simp [ih, hp]
theorem lcL_map1 {α : Type} {sp : Sl} {t : Sg} {te : Sx} {S : Sto} (emb f : α → PV) (l : List α)
    (h : ∀ a ∈ l, ∃ sp1, t (emb a) sp S = some sp1 ∧ te sp1 S = .ok (f a) S) : lcL sp t stYes te (l.map emb) S = .ok (l.map f) S := by
  have := lcL_map (c := stYes) emb f (fun _ => true) l fun a ha => by
    obtain ⟨sp1, e1, e2⟩ := h a ha
    exact ⟨sp1, e1, rfl, fun _ => e2⟩
  rwa [List.filter_eq_self.mpr (fun _ _ => rfl)] at this
theorem lcL_inv {sp : Sl} {t : Sg} {te : Sx} (I : Nat → Sto → Prop) (Q : Nat → PV → Prop) : ∀ (xs : List PV) (i : Nat) (S : Sto),
    (∀ j x S, xs[j]? = some x → I (i + j) S → ∃ sp1 y S', t x sp S = some sp1 ∧ te sp1 S = .ok y S' ∧ Q (i + j) y ∧ I (i + j + 1) S') → I i S →
    ∃ ys S', lcL sp t stYes te xs S = .ok ys S' ∧ I (i + xs.length) S' ∧ ys.length = xs.length ∧ ∀ j y, ys[j]? = some y → Q (i + j) y
  | [], i, S, _, h0 => ⟨[], S, rfl, h0, rfl, by simp⟩
  | x :: xs, i, S, h, h0 => by
    obtain ⟨sp1, y, S', e1, e2, hq, h1⟩ := h 0 x S rfl h0
    obtain ⟨ys, S2, e3, h2, hl, hqs⟩ := lcL_inv I Q xs (i + 1) S' (fun j y S hy hj => by
      have := h (j + 1) y S (by simpa using hy) (by rw [show i + (j + 1) = i + 1 + j by omega]; exact hj)
      rw [show i + (j + 1) = i + 1 + j by omega] at this
      exact this) h1
    refine ⟨y :: ys, S2, ?_, by rw [List.length_cons, show i + (xs.length + 1) = i + 1 + xs.length by omega]; exact h2, by simp [hl], fun j z hz => ?_⟩
    · simp only [lcL, e1]
      show (Out.pure (te sp1 S) fun y S2 => (lcL sp t stYes te xs S2).pure fun ys S3 => Out.ok (y :: ys) S3) = _
      rw [e2]
      show ((lcL sp t stYes te xs S').pure fun ys S3 => Out.ok (y :: ys) S3) = _
      rw [e3]
    · cases j with
      | zero => simp at hz; subst hz; exact hq
      | succ j =>
        rw [show i + (j + 1) = i + 1 + j by omega]
        exact hqs j z (by simpa using hz)
theorem lcL_inv0 {sp : Sl} {t : Sg} {te : Sx} (I : Nat → Sto → Prop) (Q : Nat → PV → Prop) {xs : List PV} {S : Sto} (h0 : I 0 S)
    (h : ∀ j x S, xs[j]? = some x → I j S → ∃ sp1 y S', t x sp S = some sp1 ∧ te sp1 S = .ok y S' ∧ Q j y ∧ I (j + 1) S') :
    ∃ ys S', lcL sp t stYes te xs S = .ok ys S' ∧ I xs.length S' ∧ ys.length = xs.length ∧ ∀ j y, ys[j]? = some y → Q j y := by
  have := lcL_inv I Q xs 0 S (fun j x S hx hj => by rw [Nat.zero_add] at hj ⊢; exact h j x S hx hj) h0
  simpa only [Nat.zero_add] using this
theorem enumP_map {α : Type} (f : α → PV) : ∀ (i : Nat) (l : List α), enumP i (l.map f) = (l.zipIdx i).map fun p => PV.tup [.int (p.2 : Nat), f p.1]
  | _, [] => rfl
  | i, a :: l => by simp [enumP, enumP_map f (i + 1) l]
theorem rngP_get {lo : Int} {n j : Nat} {x : PV} (h : (rngP lo n)[j]? = some x) : j < n ∧ x = .int (lo + (j : Nat)) := by
  unfold rngP at h
  rw [List.getElem?_map] at h
  by_cases hj : j < n
  · rw [List.getElem?_range hj] at h
    cases h
    exact ⟨hj, rfl⟩
  · rw [List.getElem?_eq_none (by simpa using hj)] at h
    cases h
theorem rngP_length {lo : Int} {n : Nat} : (rngP lo n).length = n := by simp [rngP]
section
variable {α β : Type}
@[simp ↓] theorem bind_m (o : Out α) (f : α → Sto → Out β) : Out.bind o f = (match o with
  | .ok a S => f a S
  | .exc x S => .exc x S
  | .stuck => .stuck) := rfl
@[simp ↓] theorem pure_m (o : Out α) (f : α → Sto → Out β) : Out.pure o f = (match o with
  | .ok a S => f a S
  | _ => .stuck) := rfl
@[simp ↓] theorem of_m (o : Option (α × Sto)) : Out.of o = (match o with
  | some (a, S) => .ok a S
  | none => .stuck) := rfl
@[simp ↓] theorem bindS_m (o : Out α) (sp : Sl) (f : α → Sto → SOut) : bindS o sp f = (match o with
  | .ok a S => f a S
  | .exc x S => .exc x sp S
  | .stuck => .stuck) := rfl
end
@[simp] theorem wipeP_0 (sp : Sl) : wipeP sp [] = sp := rfl
@[simp] theorem wipeP_1 (sp : Sl) (v : Nat) (vs : List Nat) : wipeP sp (v :: vs) = (wipeP sp vs).set v none := rfl
@[simp] theorem listOf_lst (S : Sto) (xs : List PV) : listOf S (.lst xs) = some xs := rfl
@[simp] theorem seqOf_lst (S : Sto) (xs : List PV) : seqOf S (.lst xs) = some xs := rfl
@[simp] theorem seqOf_tup (S : Sto) (xs : List PV) : seqOf S (.tup xs) = some xs := rfl
structure Fits (n : Nat) : Prop where
  h : n ≤ sizeLine
noncomputable instance (n : Nat) : Decidable (Fits n) := Classical.propDecidable _
theorem fits_of {n : Nat} (h : n ≤ 100000) : Fits n := ⟨Nat.le_trans h (by decide)⟩
theorem fits_ite {α : Type} {n : Nat} {x y : α} : (if n ≤ sizeLine then x else y) = if Fits n then x else y := by
  by_cases h : n ≤ sizeLine
  · rw [if_pos h, if_pos ⟨h⟩]
  · rw [if_neg h, if_neg fun q => h q.h]
@[simp] theorem fits_0 : Fits 0 := fits_of (by decide)
@[simp] theorem fits_1 : Fits 1 := fits_of (by decide)
@[simp] theorem fits_2 : Fits 2 := fits_of (by decide)
@[simp] theorem fits_3 : Fits 3 := fits_of (by decide)
@[simp] theorem fits_4 : Fits 4 := fits_of (by decide)
@[simp] theorem fits_5 : Fits 5 := fits_of (by decide)
@[simp] theorem fits_6 : Fits 6 := fits_of (by decide)
@[simp] theorem fits_7 : Fits 7 := fits_of (by decide)
@[simp] theorem fits_8 : Fits 8 := fits_of (by decide)
@[simp] theorem fits_9 : Fits 9 := fits_of (by decide)
@[simp] theorem fits_10 : Fits 10 := fits_of (by decide)
@[simp] theorem fits_11 : Fits 11 := fits_of (by decide)
@[simp] theorem fits_12 : Fits 12 := fits_of (by decide)
@[simp] theorem fits_13 : Fits 13 := fits_of (by decide)
@[simp] theorem fits_14 : Fits 14 := fits_of (by decide)
@[simp] theorem fits_15 : Fits 15 := fits_of (by decide)
@[simp] theorem fits_16 : Fits 16 := fits_of (by decide)
@[simp] theorem fits_17 : Fits 17 := fits_of (by decide)
@[simp] theorem fits_18 : Fits 18 := fits_of (by decide)
@[simp] theorem fits_19 : Fits 19 := fits_of (by decide)
@[simp] theorem fits_20 : Fits 20 := fits_of (by decide)
@[simp] theorem fits_21 : Fits 21 := fits_of (by decide)
@[simp] theorem fits_22 : Fits 22 := fits_of (by decide)
@[simp] theorem fits_23 : Fits 23 := fits_of (by decide)
@[simp] theorem fits_24 : Fits 24 := fits_of (by decide)
@[simp] theorem fits_25 : Fits 25 := fits_of (by decide)
@[simp] theorem fits_26 : Fits 26 := fits_of (by decide)
@[simp] theorem fits_27 : Fits 27 := fits_of (by decide)
@[simp] theorem fits_28 : Fits 28 := fits_of (by decide)
@[simp] theorem fits_29 : Fits 29 := fits_of (by decide)
@[simp] theorem fits_30 : Fits 30 := fits_of (by decide)
@[simp] theorem fits_31 : Fits 31 := fits_of (by decide)
@[simp] theorem fits_32 : Fits 32 := fits_of (by decide)
theorem rngOk_of {j : Int} (h0 : 0 ≤ j) (h : j ≤ 16777216) : RngOk j := Nat.ble_eq_true_of_le (by omega)
@[simp ↓] theorem s_bodyF (n : Nat) (t : Ss) (as : List PV) (S : Sto) : bodyF n t as S = (match t (startP n as) S with
  | .rt v S' => .ok v S'
  | .nx _ S' => .ok .non S'
  | .exc x _ S' => .exc x S'
  | _ => .stuck) := rfl
@[simp ↓] theorem s_startP (n : Nat) (as : List PV) : startP n as  = (as.map some ++ List.replicate (n - as.length) none) := rfl
@[simp ↓] theorem s_ssNil (sp : Sl) (S : Sto) : ssNil  sp S = (.nx sp S) := rfl
@[simp ↓] theorem s_ssSeq (t u : Ss) (sp : Sl) (S : Sto) : ssSeq t u sp S = (match t sp S with
  | .nx sp' S' => u sp' S'
  | o => o) := rfl
@[simp ↓] theorem s_ssBreak (sp : Sl) (S : Sto) : ssBreak  sp S = (.bk sp S) := rfl
@[simp ↓] theorem s_ssCont (sp : Sl) (S : Sto) : ssCont  sp S = (.ct sp S) := rfl
@[simp ↓] theorem s_ssExpr (te : Sx) (sp : Sl) (S : Sto) : ssExpr te sp S = (bindS (te sp S) sp fun _ S1 => .nx sp S1) := rfl
@[simp ↓] theorem s_ssRet (te : Sx) (sp : Sl) (S : Sto) : ssRet te sp S = (bindS (te sp S) sp fun v S1 => .rt v S1) := rfl
@[simp ↓] theorem s_ssRetN (u0 : Sl) (S : Sto) : ssRetN  u0 S = (.rt .non S) := rfl
@[simp ↓] theorem s_ssIf (c : St') (t u : Ss) (sp : Sl) (S : Sto) : ssIf c t u sp S = (bindS (c sp S) sp fun k S1 => if k = true then t sp S1 else u sp S1) := rfl
@[simp ↓] theorem s_ssSet (i : Nat) (te : Sx) (sp : Sl) (S : Sto) : ssSet i te sp S = (bindS (te sp S) sp fun v S1 => .nx (sp.set i (some v)) S1) := rfl
@[simp ↓] theorem s_ssAsg (te : Sx) (t : Sg) (sp : Sl) (S : Sto) : ssAsg te t sp S = (bindS (te sp S) sp fun v S1 => match t v sp S1 with
  | some sp' => .nx sp' S1
  | none => .stuck) := rfl
@[simp ↓] theorem s_ssPar (i j : Nat) (ta : Sa) (sp : Sl) (S : Sto) : ssPar i j ta sp S = (bindS (ta sp S) sp fun vs S1 => match vs with
  | [v, w] => .nx ((sp.set i (some v)).set j (some w)) S1
  | _ => .stuck) := rfl
@[simp ↓] theorem s_ssFor (ti : Si) (t : Sg) (b : Ss) (sp : Sl) (S : Sto) : ssFor ti t b sp S = (bindS (ti sp S) sp fun src S1 => match src with
  | .items xs => forL t b xs sp S1
  | src => match srcGet src S1 with
    | none => .stuck
    | some xs => forG (srcGet src) t b xs.length 0 sp S1) := rfl
@[simp ↓] theorem s_ssSub (to ti te : Sx) (sp : Sl) (S : Sto) : ssSub to ti te sp S = (bindS (te sp S) sp fun v S1 => bindS (to sp S1) sp fun o S2 => bindS (ti sp S2) sp fun i S3 => match vSet o i v S3 with
  | some S4 => .nx sp S4
  | none => .stuck) := rfl
@[simp ↓] theorem s_ssAug (k : Nat) (op : V2) (te : Sx) (sp : Sl) (S : Sto) : ssAug k op te sp S = (match sp[k]? with
  | some (some x) => bindS (te sp S) sp fun y S1 => bindS (.of (op x y S1)) sp fun z S2 => .nx (sp.set k (some z)) S2
  | _ => .stuck) := rfl
@[simp ↓] theorem s_ssAugSub (op : V2) (to ti te : Sx) (sp : Sl) (S : Sto) : ssAugSub op to ti te sp S = (bindS (to sp S) sp fun o S1 => bindS (ti sp S1) sp fun i S2 => bindS (.of (vItemL o i S2)) sp fun x S3 => bindS (te sp S3) sp fun y S4 => bindS (.of (op x y S4)) sp fun z S5 => match vSet o i z S5 with
  | some S6 => .nx sp S6
  | none => .stuck) := rfl
@[simp ↓] theorem s_ssWhile (f : Nat) (c : St') (b : Ss) (sp : Sl) (S : Sto) : ssWhile f c b sp S = (whileN c b f sp S) := rfl
@[simp ↓] theorem s_sxVar (i : Nat) (sp : Sl) (S : Sto) : sxVar i sp S = (match sp[i]? with
  | some (some v) => .ok v S
  | _ => .stuck) := rfl
@[simp ↓] theorem s_sxC (v : PV) (u0 : Sl) (S : Sto) : sxC v u0 S = (.ok v S) := rfl
@[simp ↓] theorem s_sx1 (o : V1) (ta : Sx) (sp : Sl) (S : Sto) : sx1 o ta sp S = ((ta sp S).bind fun a S1 => .of (o a S1)) := rfl
@[simp ↓] theorem s_sx2 (o : V2) (ta tb : Sx) (sp : Sl) (S : Sto) : sx2 o ta tb sp S = ((ta sp S).bind fun a S1 => (tb sp S1).bind fun b S2 => .of (o a b S2)) := rfl
@[simp ↓] theorem s_stB (t : Sx) (sp : Sl) (S : Sto) : stB t sp S = ((t sp S).bind fun v S1 => match v with
  | .bl b => .ok b S1
  | _ => .stuck) := rfl
@[simp ↓] theorem s_sxChain (o o' : V2) (ta tb tc : Sx) (sp : Sl) (S : Sto) : sxChain o o' ta tb tc sp S = ((ta sp S).bind fun a S1 => (tb sp S1).bind fun b S2 => (Out.of (o a b S2)).bind fun z S3 => match z with
  | .bl true => (tc sp S3).bind fun c S4 => .of (o' b c S4)
  | .bl false => .ok (.bl false) S3
  | _ => .stuck) := rfl
@[simp ↓] theorem s_stAnd (t u : St') (sp : Sl) (S : Sto) : stAnd t u sp S = ((t sp S).bind fun c S1 => if c = true then u sp S1 else .ok false S1) := rfl
@[simp ↓] theorem s_stOr (t u : St') (sp : Sl) (S : Sto) : stOr t u sp S = ((t sp S).bind fun c S1 => if c = true then .ok true S1 else u sp S1) := rfl
@[simp ↓] theorem s_stNot (t : St') (sp : Sl) (S : Sto) : stNot t sp S = ((t sp S).bind fun c S1 => .ok (!c) S1) := rfl
@[simp ↓] theorem s_sxAnd (ta tb : Sx) (sp : Sl) (S : Sto) : sxAnd ta tb sp S = ((ta sp S).bind fun v S1 => match v with
  | .bl true => tb sp S1
  | .bl false => .ok (.bl false) S1
  | _ => .stuck) := rfl
@[simp ↓] theorem s_sxOr (ta tb : Sx) (sp : Sl) (S : Sto) : sxOr ta tb sp S = ((ta sp S).bind fun v S1 => match v with
  | .bl true => .ok (.bl true) S1
  | .bl false => tb sp S1
  | _ => .stuck) := rfl
@[simp ↓] theorem s_sxNot (ta : Sx) (sp : Sl) (S : Sto) : sxNot ta sp S = ((ta sp S).bind fun v S1 => match v with
  | .bl k => .ok (.bl (!k)) S1
  | _ => .stuck) := rfl
@[simp ↓] theorem s_sxIf (t : St') (ta tb : Sx) (sp : Sl) (S : Sto) : sxIf t ta tb sp S = ((t sp S).bind fun c S1 => if c = true then ta sp S1 else tb sp S1) := rfl
@[simp ↓] theorem s_saNil (u0 : Sl) (S : Sto) : saNil  u0 S = (.ok [] S) := rfl
@[simp ↓] theorem s_saCons (ta : Sx) (tr : Sa) (sp : Sl) (S : Sto) : saCons ta tr sp S = ((ta sp S).bind fun a S1 => (tr sp S1).bind fun as S2 => .ok (a :: as) S2) := rfl
@[simp ↓] theorem s_sxN (o : VN) (t : Sa) (sp : Sl) (S : Sto) : sxN o t sp S = ((t sp S).bind fun as S1 => .of (o as S1)) := rfl
@[simp ↓] theorem s_sxCall (n : Nat) (sem : Fs) (tr : Sa) (sp : Sl) (S : Sto) : sxCall n sem tr sp S = ((tr sp S).bind fun as S1 => if as.length = n then sem as S1 else .stuck) := rfl
@[simp ↓] theorem s_sgName (i : Nat) (v : PV) (sp : Sl) (u2 : Sto) : sgName i v sp u2 = (some (sp.set i (some v))) := rfl
@[simp ↓] theorem s_sgNil (vs : List PV) (sp : Sl) (u2 : Sto) : sgNil  vs sp u2 = (match vs with
  | [] => some sp
  | _ :: _ => none) := rfl
@[simp ↓] theorem s_sgCons (t : Sg) (u : Sgs) (vs : List PV) (sp : Sl) (S : Sto) : sgCons t u vs sp S = (match vs with
  | [] => none
  | v :: r => (t v sp S).bind fun sp1 => u r sp1 S) := rfl
@[simp ↓] theorem s_sgTup (n : Nat) (t : Sgs) (v : PV) (sp : Sl) (S : Sto) : sgTup n t v sp S = (match v with
  | .tup xs => if xs.length = n then t xs sp S else none
  | _ => none) := rfl
@[simp ↓] theorem s_soNo (u0 : Sl) (S : Sto) : soNo  u0 S = (.ok none S) := rfl
@[simp ↓] theorem s_soPart (t : Sx) (sp : Sl) (S : Sto) : soPart t sp S = ((t sp S).bind fun v S1 => match v with
  | .int i => .ok (some i) S1
  | _ => .stuck) := rfl
@[simp ↓] theorem s_sxSl (o : VS) (ta : Sx) (tl th : So) (sp : Sl) (S : Sto) : sxSl o ta tl th sp S = ((ta sp S).bind fun a S1 => (tl sp S1).bind fun lo S2 => (th sp S2).bind fun hi S3 => .of (o a lo hi S3)) := rfl
@[simp ↓] theorem s_sxMt (chk : Sto → PV → Bool) (o : VM) (ta : Sx) (tr : Sa) (sp : Sl) (S : Sto) : sxMt chk o ta tr sp S = ((ta sp S).bind fun a S1 => if chk S1 a = true then (tr sp S1).bind fun as S2 => .of (o a as S2) else .stuck) := rfl
@[simp ↓] theorem s_sxMt0 (chk : Sto → PV → Bool) (o : VM) (ta : Sx) (sp : Sl) (S : Sto) : sxMt0 chk o ta sp S = ((ta sp S).bind fun a S1 => if chk S1 a = true then .of (o a [] S1) else .stuck) := rfl
@[simp ↓] theorem s_sxLc (fin : VN) (ti : Si) (vs : List Nat) (t : Sg) (c : St') (te : Sx) (sp : Sl) (S : Sto) : sxLc fin ti vs t c te sp S = ((ti sp S).bind fun src S1 => (lcRun src (wipeP sp vs) t c te S1).pure fun ys S2 => .of (fin ys S2)) := rfl
@[simp ↓] theorem s_lcRun (src : Src) (sp : Sl) (t : Sg) (c : St') (te : Sx) (S : Sto) : lcRun src sp t c te S  = (match src with
  | .items xs => lcL sp t c te xs S
  | src => match srcGet src S with
    | none => .stuck
    | some xs => lcG (srcGet src) sp t c te xs.length 0 S) := rfl
@[simp ↓] theorem s_siSeq (te : Sx) (sp : Sl) (S : Sto) : siSeq te sp S = ((te sp S).bind srcOf) := rfl
@[simp ↓] theorem s_srcOf (v : PV) (S1 : Sto) : srcOf v S1  = (match v with
  | .tup xs => .ok (.items xs) S1
  | .lst xs => .ok (.items xs) S1
  | .str z => .ok (.items (charsOf z)) S1
  | .ref n => match listOf S1 (.ref n) with
    | some _ => .ok (.live n) S1
    | none => .stuck
  | _ => .stuck) := rfl
@[simp ↓] theorem s_siRange1 (ta : Sx) (sp : Sl) (S : Sto) : siRange1 ta sp S = ((ta sp S).bind fun v S1 => match v with
  | .int j => if RngOk j then .ok (.items (rngP 0 j.toNat)) S1 else .stuck
  | _ => .stuck) := rfl
@[simp ↓] theorem s_siRange2 (ta tb : Sx) (sp : Sl) (S : Sto) : siRange2 ta tb sp S = ((ta sp S).bind fun v S1 => (tb sp S1).bind fun w S2 => match v, w with
  | .int i, .int j => if RngOk i ∧ RngOk j then .ok (.items (rngP i (j - i).toNat)) S2 else .stuck
  | _, _ => .stuck) := rfl
@[simp ↓] theorem s_siEnum (te : Sx) (sp : Sl) (S : Sto) : siEnum te sp S = ((te sp S).bind srcEnum) := rfl
@[simp ↓] theorem s_srcEnum (v : PV) (S1 : Sto) : srcEnum v S1  = (match v with
  | .tup xs => .ok (.items (enumP 0 xs)) S1
  | .lst xs => .ok (.items (enumP 0 xs)) S1
  | .ref n => match listOf S1 (.ref n) with
    | some _ => .ok (.liveE n) S1
    | none => .stuck
  | _ => .stuck) := rfl
@[simp ↓] theorem s_stYes (u0 : Sl) (S : Sto) : stYes  u0 S = (.ok true S) := rfl
@[simp ↓] theorem s_vTup (as : List PV) (S : Sto) : vTup  as S = (if Fits as.length then some (.tup as, S) else none) := fits_ite
@[simp ↓] theorem s_vLst (as : List PV) (S : Sto) : vLst  as S = (if Fits as.length then some (.lst as, S) else none) := fits_ite
@[simp ↓] theorem s_vNew (as : List PV) (S : Sto) : vNew  as S = (if Fits as.length then some (.ref S.length, S ++ [.lst as]) else none) := fits_ite
@[simp ↓] theorem s_fzL (ys : List PV) (S : Sto) : fzL  ys S = (if Fits ys.length then some (.lst ys, S) else none) := fits_ite
@[simp ↓] theorem s_nwL (ys : List PV) (S : Sto) : nwL  ys S = (if Fits ys.length then some (.ref S.length, S ++ [.lst ys]) else none) := fits_ite
@[simp ↓] theorem s_vInt (as : List PV) (S : Sto) : vInt  as S = (match as with
  | [.int i] => some (.int i, S)
  | [.bl k] => some (.int (if k then 1 else 0), S)
  | _ => none) := rfl
@[simp ↓] theorem s_vLt (a : PV) (b : PV) (S : Sto) : vLt  a b S = (match a, b with
  | .int i, .int j => some (.bl (decide (i < j)), S)
  | _, _ => none) := rfl
@[simp ↓] theorem s_vLe (a : PV) (b : PV) (S : Sto) : vLe  a b S = (match a, b with
  | .int i, .int j => some (.bl (decide (i ≤ j)), S)
  | _, _ => none) := rfl
@[simp ↓] theorem s_vGt (a : PV) (b : PV) (S : Sto) : vGt  a b S = (match a, b with
  | .int i, .int j => some (.bl (decide (j < i)), S)
  | _, _ => none) := rfl
@[simp ↓] theorem s_vGe (a : PV) (b : PV) (S : Sto) : vGe  a b S = (match a, b with
  | .int i, .int j => some (.bl (decide (j ≤ i)), S)
  | _, _ => none) := rfl
@[simp ↓] theorem s_vIsN (a : PV) (b : PV) (S : Sto) : vIsN  a b S = (match a, b with
  | .non, .non => some (.bl true, S)
  | _, .non => some (.bl false, S)
  | _, _ => none) := rfl
@[simp ↓] theorem s_vIsNotN (a : PV) (b : PV) (S : Sto) : vIsNotN  a b S = (match a, b with
  | .non, .non => some (.bl false, S)
  | _, .non => some (.bl true, S)
  | _, _ => none) := rfl
@[simp ↓] theorem s_vSub (a : PV) (b : PV) (S : Sto) : vSub  a b S = (match a, b with
  | .int i, .int j => some (.int (i - j), S)
  | _, _ => none) := rfl
@[simp ↓] theorem s_isL (S : Sto) (a : PV) : isL S a  = ((listOf S a).isSome) := rfl
@[simp ↓] theorem s_vMin2 (as : List PV) (S : Sto) : vMin2  as S = (match as with
  | [.int i, .int j] => some (.int (if j < i then j else i), S)
  | _ => none) := rfl
@[simp ↓] theorem s_vMax2 (as : List PV) (S : Sto) : vMax2  as S = (match as with
  | [.int i, .int j] => some (.int (if j > i then j else i), S)
  | _ => none) := rfl
@[simp ↓] theorem s_vNeg (a : PV) (S : Sto) : vNeg  a S = (match a with
  | .int i => some (.int (-i), S)
  | _ => none) := rfl
@[simp ↓] theorem s_vLen (as : List PV) (S : Sto) : vLen  as S = (match as with
  | [.str z] => if Fits z.length then some (.int z.length, S) else none
  | [a] => (seqOf S a).map fun xs => (.int xs.length, S)
  | _ => none) := by
  match as with
  | [] => rfl
  | [a] => cases a <;> first | exact fits_ite | rfl
  | a :: _ :: _ => cases a <;> rfl
@[simp ↓] theorem s_vTuple (as : List PV) (S : Sto) : vTuple  as S = (match as with
  | [.tup xs] => some (.tup xs, S)
  | [a] => (listOf S a).map fun xs => (.tup xs, S)
  | _ => none) := rfl
@[simp ↓] theorem s_vItem (a : PV) (b : PV) (S : Sto) : vItem  a b S = (match b with
  | .int i => match a with
    | .str z => if Fits z.length then (atI z.cps.toList i).map fun c => (.str ⟨#[c]⟩, S) else none
    | a => match seqOf S a with
      | some xs => (atI xs i).map fun x => (x, S)
      | none => none
  | _ => none) := by
  unfold vItem
  cases b with
  | int i =>
    cases a with
    | str z => exact fits_ite
    | _ => rfl
  | _ => rfl
@[simp ↓] theorem s_vAppend (n : Nat) (v : PV) (S : Sto) : vAppend (.ref n) [v] S = (match S[n]? with
    | some (.lst xs) => if Fits (xs.length + 1) then some (.non, S.set n (.lst (xs ++ [v]))) else none
    | _ => none) := by
  show (match S[n]? with
    | some (.lst xs) => if xs.length < sizeLine then some (PV.non, S.set n (.lst (xs ++ [v]))) else none
    | _ => none) = _
  cases S[n]? with
  | none => rfl
  | some so => cases so <;> first | exact fits_ite | rfl
@[simp] theorem atI_nat {α : Type} {xs : List α} {i : Nat} : atI xs (i : Int) = xs[i]? := by
  unfold atI ixN
  simp only [Int.natCast_nonneg, if_true, Int.ofNat_lt, Int.toNat_natCast]
  split
  · rfl
  · rename_i h
    rw [List.getElem?_eq_none (by omega)]; rfl
@[simp] theorem atI_lit {α : Type} {xs : List α} {i : Nat} : atI xs (no_index (OfNat.ofNat i) : Int) = xs[i]? := atI_nat
theorem zipIdx_mem {α : Type} : ∀ {l : List α} {i : Nat} {p : α × Nat}, p ∈ l.zipIdx i → ∃ j, l[j]? = some p.1 ∧ p.2 = i + j := fun {l i p} h => by
  obtain ⟨j, hj⟩ := List.getElem?_of_mem h
  rw [List.getElem?_zipIdx] at hj
  cases q : l[j]? with
  | none => rw [q] at hj; cases hj
  | some a => rw [q] at hj; cases hj; exact ⟨j, q, rfl⟩
@[simp] theorem kit_NoneType_bool : kitB "NoneType" "bool" = some false := by decide +kernel
@[simp] theorem kit_NoneType_int : kitB "NoneType" "int" = some false := by decide +kernel
@[simp] theorem kit_NoneType_str : kitB "NoneType" "str" = some false := by decide +kernel
@[simp] theorem kit_NoneType_tuple : kitB "NoneType" "tuple" = some false := by decide +kernel
@[simp] theorem kit_NoneType_list : kitB "NoneType" "list" = some false := by decide +kernel
@[simp] theorem kit_NoneType_dict : kitB "NoneType" "dict" = some false := by decide +kernel
@[simp] theorem kit_bool_bool : kitB "bool" "bool" = some true := by decide +kernel
@[simp] theorem kit_bool_int : kitB "bool" "int" = some true := by decide +kernel
@[simp] theorem kit_bool_str : kitB "bool" "str" = some false := by decide +kernel
@[simp] theorem kit_bool_tuple : kitB "bool" "tuple" = some false := by decide +kernel
@[simp] theorem kit_bool_list : kitB "bool" "list" = some false := by decide +kernel
@[simp] theorem kit_bool_dict : kitB "bool" "dict" = some false := by decide +kernel
@[simp] theorem kit_int_bool : kitB "int" "bool" = some false := by decide +kernel
@[simp] theorem kit_int_int : kitB "int" "int" = some true := by decide +kernel
@[simp] theorem kit_int_str : kitB "int" "str" = some false := by decide +kernel
@[simp] theorem kit_int_tuple : kitB "int" "tuple" = some false := by decide +kernel
@[simp] theorem kit_int_list : kitB "int" "list" = some false := by decide +kernel
@[simp] theorem kit_int_dict : kitB "int" "dict" = some false := by decide +kernel
@[simp] theorem kit_str_bool : kitB "str" "bool" = some false := by decide +kernel
@[simp] theorem kit_str_int : kitB "str" "int" = some false := by decide +kernel
@[simp] theorem kit_str_str : kitB "str" "str" = some true := by decide +kernel
@[simp] theorem kit_str_tuple : kitB "str" "tuple" = some false := by decide +kernel
@[simp] theorem kit_str_list : kitB "str" "list" = some false := by decide +kernel
@[simp] theorem kit_str_dict : kitB "str" "dict" = some false := by decide +kernel
@[simp] theorem kit_tuple_bool : kitB "tuple" "bool" = some false := by decide +kernel
@[simp] theorem kit_tuple_int : kitB "tuple" "int" = some false := by decide +kernel
@[simp] theorem kit_tuple_str : kitB "tuple" "str" = some false := by decide +kernel
@[simp] theorem kit_tuple_tuple : kitB "tuple" "tuple" = some true := by decide +kernel
@[simp] theorem kit_tuple_list : kitB "tuple" "list" = some false := by decide +kernel
@[simp] theorem kit_tuple_dict : kitB "tuple" "dict" = some false := by decide +kernel
@[simp] theorem kit_list_bool : kitB "list" "bool" = some false := by decide +kernel
@[simp] theorem kit_list_int : kitB "list" "int" = some false := by decide +kernel
@[simp] theorem kit_list_str : kitB "list" "str" = some false := by decide +kernel
@[simp] theorem kit_list_tuple : kitB "list" "tuple" = some false := by decide +kernel
@[simp] theorem kit_list_list : kitB "list" "list" = some true := by decide +kernel
@[simp] theorem kit_list_dict : kitB "list" "dict" = some false := by decide +kernel
@[simp] theorem kit_dict_bool : kitB "dict" "bool" = some false := by decide +kernel
@[simp] theorem kit_dict_int : kitB "dict" "int" = some false := by decide +kernel
@[simp] theorem kit_dict_str : kitB "dict" "str" = some false := by decide +kernel
@[simp] theorem kit_dict_tuple : kitB "dict" "tuple" = some false := by decide +kernel
@[simp] theorem kit_dict_list : kitB "dict" "list" = some false := by decide +kernel
@[simp] theorem kit_dict_dict : kitB "dict" "dict" = some true := by decide +kernel
@[simp] theorem vEq_int (i j : Int) (S : Sto) : vEq (.int i) (.int j) S = some (.bl (decide (i = j)), S) := by
  have e : PyData.eqv (.int i) (.int j) = decide (i = j) := by rw [PyData.eqv]; rfl
  unfold vEq
  rw [← e]
  exact if_pos ⟨rfl, rfl⟩
@[simp] theorem vNe_int (i j : Int) (S : Sto) : vNe (.int i) (.int j) S = some (.bl (!decide (i = j)), S) := by
  have e : PyData.eqv (.int i) (.int j) = decide (i = j) := by rw [PyData.eqv]; rfl
  unfold vNe
  rw [← e]
  exact if_pos ⟨rfl, rfl⟩
theorem eqv_str (x y : Str) : PyData.eqv (.str x) (.str y) = decide (x = y) := by
  rw [PyData.eqv]
  by_cases h : x = y
  · subst h; simp
  · rw [decide_eq_false h]; exact beq_eq_false_iff_ne.mpr h
theorem vEq_str {x y : Str} {S : Sto} (hx : PyData.strOk x = true) (hy : PyData.strOk y = true) : vEq (.str x) (.str y) S = some (.bl (decide (x = y)), S) := by
  rw [vEq_sm (by simpa only [sm] using hx) (by simp [dp]) (by simpa only [sm] using hy) (by simp [dp]), ← eqv_str]; rfl
theorem eqv_tup2 (a b c d : PyData) : PyData.eqv (.tuple [a, b]) (.tuple [c, d]) = (PyData.eqv a c && PyData.eqv b d) := by
  simp [PyData.eqv, PyData.eqvAll]
theorem sms_map {α : Type} {f : α → PV} {l : List α} (h : ∀ a ∈ l, sm (f a) = true) : sms (l.map f) = true := sms_all.mpr fun x hx => by
  obtain ⟨a, ha, rfl⟩ := List.mem_map.mp hx
  exact h a ha
theorem dps_map {α : Type} {f : α → PV} {n : Nat} : ∀ {l : List α}, (∀ a ∈ l, dp (f a) ≤ n) → dps (l.map f) ≤ n
  | [], _ => Nat.zero_le _
  | a :: l, h => by
    have h1 := h a (List.mem_cons_self ..)
    have h2 := dps_map (l := l) fun x hx => h x (List.mem_cons_of_mem _ hx)
    simp only [List.map_cons, dps]
    omega
theorem wts_map {α : Type} {f : α → PV} {n : Nat} : ∀ {l : List α}, (∀ a ∈ l, wt (f a) ≤ n) → wts (l.map f) ≤ l.length * (n + 2)
  | [], _ => Nat.zero_le _
  | a :: l, h => by
    have h1 := h a (List.mem_cons_self ..)
    have h2 := wts_map (l := l) fun x hx => h x (List.mem_cons_of_mem _ hx)
    simp only [List.map_cons, wts, List.length_cons, Nat.add_mul, Nat.one_mul]
    omega
@[simp] theorem cutP_take (xs : List PV) (j : Nat) : cutP xs none (some (j : Int)) = xs.take j := by
  unfold cutP
  have e1 : HT.sIx xs.length 0 none = 0 := rfl
  have e2 : HT.sIx xs.length xs.length (some (j : Int)) = min j xs.length := by
    unfold HT.sIx
    simp
    omega
  rw [e1, e2]
  simp [List.take_take]
theorem enumP0_get {xs : List PV} {j : Nat} {x : PV} (h : (enumP 0 xs)[j]? = some x) : ∃ y, xs[j]? = some y ∧ x = .tup [.int (j : Nat), y] := by
  rw [enumP_get] at h
  cases q : xs[j]? with
  | none => rw [q] at h; cases h
  | some y => rw [q, Nat.zero_add] at h; cases h; exact ⟨y, rfl, rfl⟩
theorem rngP0 (n : Nat) : rngP 0 n = (List.range n).map fun i => PV.int (i : Nat) := by
  unfold rngP
  exact List.map_congr_left fun i _ => by rw [Int.zero_add]
theorem map_get {α : Type} {f : α → PV} {l : List α} {j : Nat} {x : PV} (h : (l.map f)[j]? = some x) : ∃ a, l[j]? = some a ∧ x = f a := by
  rw [List.getElem?_map] at h
  cases q : l[j]? with
  | none => rw [q] at h; cases h
  | some a => rw [q] at h; cases h; exact ⟨a, rfl, rfl⟩
@[simp] theorem set_concat {α : Type} (S : List α) (x y : α) : (S ++ [x]).set S.length y = S ++ [y] := by
  rw [List.set_append_right _ _ (Nat.le_refl _)]; simp
theorem atI_last {α : Type} {xs : List α} : atI xs (-1) = xs.getLast? := by
  cases xs with
  | nil => rfl
  | cons a l =>
    unfold atI ixN
    rw [if_neg (by omega), if_pos (by simp only [List.length_cons]; omega)]
    rw [List.getLast?_eq_getElem?]
    show (a :: l)[((-1 : Int) + ((a :: l).length : Nat)).toNat]? = _
    congr 1
    simp only [List.length_cons]
    omega
theorem wp_and {a b : Bool} (h1 : a = true) (h2 : b = true) : (a && b) = true := by rw [h1, h2]; rfl
end MX

end

section
namespace K05
open PySem PySem.Spec PyProof.Rows L2 MX
abbrev Step := Bool × Str
def stP (s : Step) : PV := .tup [.str (if s.1 = true then "mark" else "look"), .str s.2]
def deP (d : List Step) : PV := .tup (d.map stP)
def loP (L : List (List Step)) : PV := .tup (L.map deP)
def words : List Str := ["a", "b", "c", "d", "ab", "xy", "xyz"]
theorem thing_ok {w : Str} {S : Sto} (h : w ∈ words) : m_is_thing [.str w] S = .ok (.bl true) S := by
  simp only [words, List.mem_cons, List.not_mem_nil, or_false] at h
  rcases h with rfl | rfl | rfl | rfl | rfl | rfl | rfl <;> kernel_rfl
theorem word_ok {w : Str} (h : w ∈ words) : PyData.strOk w = true ∧ w.length ≤ 3 := by
  simp only [words, List.mem_cons, List.not_mem_nil, or_false] at h
  rcases h with rfl | rfl | rfl | rfl | rfl | rfl | rfl <;> exact ⟨by decide +kernel, by decide +kernel⟩
theorem step_ok {s : Step} {S : Sto} (h : s.2 ∈ words) : m_is_step [stP s] S = .ok (.bl true) S := by
  have e := thing_ok (S := S) h
  obtain ⟨b, w⟩ := s
  replace e : m_is_thing [.str w] S = .ok (.bl true) S := e
  cases b with
  | true =>
    have e1 : vIn (.str "mark") (.tup [.str "look", .str "mark"]) S = some (.bl true, S) := by kernel_rfl
    simp [m_is_step, t_is_step, stP, vIsInst, tyName, e, e1]
  | false =>
    have e1 : vIn (.str "look") (.tup [.str "look", .str "mark"]) S = some (.bl true, S) := by kernel_rfl
    simp [m_is_step, t_is_step, stP, vIsInst, tyName, e, e1]
theorem sm_stP {s : Step} (h : s.2 ∈ words) : sm (stP s) = true := by
  have h2 := (word_ok h).1
  obtain ⟨b, w⟩ := s
  have n1 : PyData.strOk "mark" = true := by decide +kernel
  have n2 : PyData.strOk "look" = true := by decide +kernel
  have h2' : PyData.strOk w = true := h2
  cases b <;> simp [stP, sm, sms, n1, n2, h2']
theorem dp_stP (s : Step) : dp (stP s) = 1 := by simp [stP, dp, dps]
theorem eqv_stP (a b : Step) : PyData.eqv (dt (stP a)) (dt (stP b)) = decide (a = b) := by
  obtain ⟨a1, a2⟩ := a
  obtain ⟨b1, b2⟩ := b
  have n1 : (Str.ofString "mark" = Str.ofString "look") = False := eq_false (by decide)
  have n2 : (Str.ofString "look" = Str.ofString "mark") = False := eq_false (by decide)
  cases a1 <;> cases b1 <;> simp [stP, dt, dts, eqv_tup2, eqv_str, n1, n2]
theorem in_deP {s : Step} {d : List Step} {S : Sto} (h : s.2 ∈ words) (hd : ∀ x ∈ d, x.2 ∈ words) : vIn (stP s) (deP d) S = some (.bl (decide (s ∈ d)), S) := by
  unfold deP
  rw [vIn_tup (sm_stP h) (by rw [dp_stP]; decide) (sms_map fun a ha => sm_stP (hd a ha)) (Nat.lt_of_le_of_lt (dps_map (n := 1) fun a _ => Nat.le_of_eq (dp_stP a)) (by decide))]
  congr 2
  rw [dts_map, List.map_map, List.any_map]
  congr 1
  rw [Bool.eq_iff_iff, List.any_eq_true]
  simp only [Function.comp, eqv_stP, decide_eq_true_eq]
  exact ⟨fun ⟨x, hx, e⟩ => e ▸ hx, fun hx => ⟨s, hx, rfl⟩⟩
theorem vIn_not {a b : PV} {S : Sto} {k : Bool} (h : vIn a b S = some (.bl k, S)) : vNotIn a b S = some (.bl (!k), S) := by
  unfold vIn at h
  unfold vNotIn
  cases q : inAns S a b with
  | none => rw [q] at h; cases h
  | some k' => rw [q] at h; cases h; rfl
theorem follow_ok {s : Step} {d : List Step} {S : Sto} (h : s.2 ∈ words) (hd : ∀ x ∈ d, x.2 ∈ words) (h1 : s ∉ d) (h2 : s.1 = true ∨ (true, s.2) ∉ d) : m_can_follow [deP d, stP s] S = .ok (.bl true) S := by
  have e1 := step_ok (S := S) h
  have e2 := in_deP (S := S) h hd
  have e3 := vIn_not (in_deP (s := (true, s.2)) (S := S) h hd)
  rw [decide_eq_false h1] at e2
  obtain ⟨b, w⟩ := s
  cases b with
  | true =>
    have e4 : vEq (.str "mark") (.str "mark") S = some (.bl true, S) := vEq_self (by decide +kernel) (by decide +kernel)
    simp only [stP, if_true] at e1 e2 ⊢
    simp [m_can_follow, t_can_follow, e1, e2, e4]
  | false =>
    have e4 : vEq (.str "look") (.str "mark") S = some (.bl false, S) := by kernel_rfl
    have h3 : (true, w) ∉ d := by simpa using h2
    rw [decide_eq_false h3] at e3
    simp only [stP, if_true, Bool.false_eq_true, if_false] at e1 e2 e3 ⊢
    simp [m_can_follow, t_can_follow, e1, e2, e3, e4]
structure DeOk (d : List Step) : Prop where
  ne : d ≠ []
  le : d.length ≤ 5
  w : ∀ x ∈ d, x.2 ∈ words
  f : ∀ j s, d[j]? = some s → s ∉ d.take j ∧ (s.1 = true ∨ (true, s.2) ∉ d.take j)
theorem wrong_step_ok {d : List Step} {S : Sto} (h : DeOk d) : m_wrong_step [deP d] S = .ok .non S := by
  obtain ⟨sp', S', e, rfl, hI⟩ := forL_inv0 (t := sgTup 2 (sgCons (sgName 1) (sgCons (sgName 2) sgNil))) (b := t_wrong_step_1)
    (fun _ sp S' => S' = S ∧ ∃ a b, sp = [some (deP d), a, b]) (xs := enumP 0 (d.map stP)) (sp := [some (deP d), none, none]) (S := S) ⟨rfl, _, _, rfl⟩ (fun j x sp S' hx ⟨e1, a, b, e2⟩ => by
      subst e1 e2
      rw [enumP_get, List.getElem?_map] at hx
      cases q : d[j]? with
      | none => rw [q] at hx; cases hx
      | some s =>
        rw [q] at hx
        cases hx
        obtain ⟨f1, f2⟩ := h.f j s q
        have e4 := follow_ok (S := S') (h.w s (List.mem_of_getElem? q)) (fun x hx => h.w x (List.mem_of_mem_take hx)) f1 f2
        have e5 : vSl (deP d) none (some ((0 + j : Nat) : Int)) S' = some (deP (d.take j), S') := by simp [vSl, deP, List.map_take]
        refine ⟨_, [some (deP d), some (.int ((0 + j : Nat) : Int)), some (stP s)], S', rfl, .inl ?_, rfl, _, _, rfl⟩
        simp only [t_wrong_step_1]
        simp [-Nat.zero_add, -Int.natCast_add, e5, e4])
  obtain ⟨a, b, rfl⟩ := hI
  simp [m_wrong_step, t_wrong_step, deP] at e ⊢
  simp [e]

structure LoOk (L : List (List Step)) : Prop where
  ne : L ≠ []
  le : L.length ≤ 5
  de : ∀ d ∈ L, DeOk d
theorem wrong_place_ok {L : List (List Step)} {S : Sto} (h : LoOk L) : m_wrong_place [loP L] S = .ok .non S := by
  obtain ⟨sp', S', e, rfl, hI⟩ := forL_inv0 (t := sgTup 2 (sgCons (sgName 1) (sgCons (sgName 2) sgNil))) (b := t_wrong_place_1)
    (fun _ sp S' => S' = S ∧ ∃ a b c, sp = [some (loP L), a, b, c]) (xs := enumP 0 (L.map deP)) (sp := [some (loP L), none, none, none]) (S := S) ⟨rfl, _, _, _, rfl⟩ (fun j x sp S' hx ⟨e1, a, b, c, e2⟩ => by
      subst e1 e2
      obtain ⟨y, h1, rfl⟩ := enumP0_get hx
      obtain ⟨d, q, rfl⟩ := map_get h1
      have hd := h.de d (List.mem_of_getElem? q)
      have e4 := wrong_step_ok (S := S') hd
      have h5 := hd.le
      have h6 : 1 ≤ d.length := List.length_pos_iff.mpr hd.ne
      refine ⟨_, [some (loP L), some (.int (j : Nat)), some (deP d), some .non], S', rfl, .inl ?_, rfl, _, _, _, rfl⟩
      simp only [t_wrong_place_1]
      unfold deP at e4 ⊢
      have h5' : (d.length : Int) ≤ 5 := by omega
      have h6' : (1 : Int) ≤ d.length := by omega
      simp [vIsInst, tyName, e4, h5', h6'])
  obtain ⟨a, b, c, rfl⟩ := hI
  have h5 := h.le
  have h6 : 1 ≤ L.length := List.length_pos_iff.mpr h.ne
  have h5' : (L.length : Int) ≤ 5 := by omega
  have h6' : (1 : Int) ≤ L.length := by omega
  simp [m_wrong_place, t_wrong_place, loP, vIsInst, tyName, h5', h6'] at e ⊢
  simp [e]
theorem need_lot_ok {L : List (List Step)} {S : Sto} (h : LoOk L) : m_need_lot [loP L] S = .ok (loP L) S := by
  simp [m_need_lot, t_need_lot, wrong_place_ok h]
def lvls : List Str := ["late", "early", "guarded"]
def lvP (lv : List Str) : PV := .tup (lv.map .str)
theorem lvl_ok {x : Str} {S : Sto} (h : x ∈ lvls) : vIn (.str x) (.tup [.str "late", .str "early", .str "guarded"]) S = some (.bl true, S) ∧ PyData.strOk x = true := by
  simp only [lvls, List.mem_cons, List.not_mem_nil, or_false] at h
  rcases h with rfl | rfl | rfl <;> exact ⟨by kernel_rfl, by decide +kernel⟩
theorem blsOf_true {α : Type} : ∀ l : List α, blsOf (l.map fun _ => PV.bl true) = some (l.map fun _ => true)
  | [] => rfl
  | a :: l => by simp [blsOf, blsOf_true l]
theorem all_true {α : Type} (l : List α) : vAll [.lst (l.map fun _ => PV.bl true)] S = some (.bl true, S) := by
  simp [vAll, blsOf_true]
theorem are_levels_ok {L : List (List Step)} {lv : List Str} {S : Sto} (h : lv.length = L.length) (h5 : L.length ≤ 5) (hl : ∀ x ∈ lv, x ∈ lvls) : m_are_levels [loP L, lvP lv] S = .ok (.bl true) S := by
  have e := lcL_map1 (sp := [some (loP L), some (lvP lv), none]) (t := sgName 2) (te := t_are_levels_1) (S := S) PV.str (fun _ => PV.bl true) lv fun a ha => by
    refine ⟨_, rfl, ?_⟩
    simp [t_are_levels_1, vIsInst, tyName, (lvl_ok (S := S) (hl a ha)).1]
  have h2 : Fits L.length := fits_of (by omega)
  simp only [loP, lvP] at e
  simp [m_are_levels, t_are_levels, vIsInst, tyName, loP, lvP, h, e, all_true, h2]
theorem need_levels_ok {L : List (List Step)} {lv : List Str} {S : Sto} (hL : LoOk L) (h : lv.length = L.length) (hl : ∀ x ∈ lv, x ∈ lvls) : m_need_levels [loP L, lvP lv] S = .ok (lvP lv) S := by
  simp [m_need_levels, t_need_levels, need_lot_ok hL, are_levels_ok h hL.le hl]

/-! runs -/
def coP (c : List Nat) : PV := .tup (c.map fun k => PV.int (k : Nat))
structure CoOk (L : List (List Step)) (c : List Nat) : Prop where
  lt : ∀ k ∈ c, k < L.length
  cnt : ∀ k d, L[k]? = some d → c.count k = d.length + 1
  len : c.length = (L.map fun d => d.length + 1).sum
@[simp] theorem vInst_int (i : Int) (S : Sto) : vIsInst "int" (.int i) S = some (.bl true, S) := by simp [vIsInst, tyName]
@[simp] theorem vInst_int_bool (i : Int) (S : Sto) : vIsInst "bool" (.int i) S = some (.bl false, S) := by simp [vIsInst, tyName]
@[simp] theorem vInst_str (i : Str) (S : Sto) : vIsInst "str" (.str i) S = some (.bl true, S) := by simp [vIsInst, tyName]
@[simp] theorem vInst_tup (i : List PV) (S : Sto) : vIsInst "tuple" (.tup i) S = some (.bl true, S) := by simp [vIsInst, tyName]
theorem is_whole_ok {i lo hi : Int} {S : Sto} (h1 : lo ≤ i) (h2 : i ≤ hi) : m_is_whole [.int i, .int lo, .int hi] S = .ok (.bl true) S := by
  simp [m_is_whole, t_is_whole, h1, h2]
theorem ixN_nat {n k : Nat} (h : k < n) : ixN n (k : Int) = some k := by
  unfold ixN
  rw [if_pos (by omega), if_pos (by omega)]; simp
theorem wrong_spot_ok {L : List (List Step)} {c : List Nat} {S : Sto} (hL : LoOk L) (h : CoOk L c) : ∃ G, m_wrong_spot [loP L, coP c] S = .ok .non (S ++ G) := by
  have e0 := lcL_map1 (sp := [some (loP L), some (coP c), none, none, none, none]) (t := sgName 5) (te := t_wrong_spot_1) (S := S) deP (fun d => PV.int ((d.length : Nat) + 1)) L fun a ha => by
    refine ⟨_, rfl, ?_⟩
    simp [t_wrong_spot_1, deP, vAdd]
  obtain ⟨sp', S', e, xs, rfl, -, hI⟩ := forL_inv0 (t := sgTup 2 (sgCons (sgName 3) (sgCons (sgName 4) sgNil))) (b := t_wrong_spot_2)
    (fun j sp S' => ∃ xs, S' = S ++ [.lst xs] ∧ (xs.length = L.length ∧ ∀ k d, L[k]? = some d → xs[k]? = some (PV.int (((d.length : Nat) + 1 : Int) - ((c.take j).count k : Nat)))) ∧ ∃ a b z, sp = [some (loP L), some (coP c), some (.ref S.length), a, b, z]) (xs := enumP 0 (c.map fun k => PV.int (k : Nat)))
    (sp := [some (loP L), some (coP c), some (.ref S.length), none, none, none]) (S := S ++ [.lst (L.map fun d => PV.int ((d.length : Nat) + 1))])
    ⟨_, rfl, ⟨by simp, fun k d hk => by simp [List.getElem?_map, hk]⟩, _, _, _, rfl⟩ (fun j x sp S' hx ⟨xs, e1, ⟨hl, hg⟩, a, b, z, e2⟩ => by
      subst e1 e2
      obtain ⟨y, h1, rfl⟩ := enumP0_get hx
      obtain ⟨k, q, rfl⟩ := map_get h1
      have hk : k < L.length := h.lt k (List.mem_of_getElem? q)
      have hkd : L[k]? = some L[k] := List.getElem?_eq_getElem hk
      have g1 := hg k _ hkd
      have hj : j < c.length := (List.getElem?_eq_some_iff.mp q).1
      have ht : c.take (j + 1) = c.take j ++ [k] := by rw [List.take_add_one, q]; rfl
      have hc : (c.take j).count k < L[k].length + 1 := by
        have e3 := h.cnt k _ hkd
        have e4 : (c.take (j + 1)).count k ≤ c.count k := (List.take_sublist _ _).count_le _
        rw [ht, List.count_append, List.count_singleton_self] at e4
        omega
      have w1 : m_is_whole [.int (k : Nat), .int 0, .int ((L.length : Nat) - 1)] (S ++ [SO.lst xs]) = .ok (.bl true) (S ++ [SO.lst xs]) := is_whole_ok (by omega) (by omega)
      have w2 : (((L[k].length : Nat) + 1 : Int) - ((c.take j).count k : Nat) = 0) = False := eq_false (by omega)
      have w3 : ixN xs.length (k : Int) = some k := ixN_nat (by omega)
      refine ⟨_, [some (loP L), some (coP c), some (.ref S.length), some (.int (j : Nat)), some (.int (k : Nat)), z], S ++ [.lst (xs.set k (PV.int (((L[k].length : Nat) + 1 : Int) - ((c.take j).count k : Nat) - 1)))], rfl, .inl ?_, _, rfl, ⟨by simp [hl], fun i d hi => ?_⟩, _, _, _, rfl⟩
      · simp only [t_wrong_spot_2]
        unfold loP
        simp [w1, g1, w2, w3, vItemL, vSet, MX.listOf, MX.seqOf]
      · rw [ht, List.count_append]
        by_cases hik : i = k
        · subst hik
          rw [List.getElem?_set_self (by omega), List.count_singleton_self]
          have : L[i] = d := by rw [hkd] at hi; exact Option.some.inj hi
          rw [← this]
          congr 2
          omega
        · rw [List.getElem?_set_ne (fun e => hik e.symm), hg i d hi, List.count_singleton]
          rw [if_neg (by simp; exact fun e => hik e.symm)]
          rfl)
  obtain ⟨a, b, z, rfl⟩ := hI
  have h2 : Fits L.length := fits_of (by have := hL.le; omega)
  refine ⟨[.lst xs], ?_⟩
  unfold loP coP at *
  simp [m_wrong_spot, t_wrong_spot, e0, h2] at e ⊢
  simp [e]
theorem intsOf_map {α : Type} (f : α → Int) : ∀ l : List α, intsOf (l.map fun a => PV.int (f a)) = some (l.map f)
  | [] => rfl
  | a :: l => by simp [intsOf, intsOf_map f l]
theorem sum_cast (l : List Nat) : (l.map fun n : Nat => (n : Int)).sum = (l.sum : Nat) := by
  induction l with
  | nil => rfl
  | cons a l ih => simp [ih]
theorem need_run_ok {L : List (List Step)} {c : List Nat} {S : Sto} (hL : LoOk L) (h : CoOk L c) : ∃ G, m_need_run [loP L, coP c] S = .ok (coP c) (S ++ G) := by
  obtain ⟨G, e1⟩ := wrong_spot_ok (S := S) hL h
  have e0 := lcL_map1 (sp := [some (loP L), some (coP c), none, none]) (t := sgName 3) (te := t_need_run_1) (S := S) deP (fun d => PV.int ((d.length : Nat) + 1)) L fun a ha => by
    refine ⟨_, rfl, ?_⟩
    simp [t_need_run_1, deP, vAdd]
  have h2 : Fits L.length := fits_of (by have := hL.le; omega)
  have e2 : vSum [.lst (L.map fun d => PV.int ((d.length : Nat) + 1))] S = some (.int (c.length : Nat), S) := by
    have e3 := sum_cast (L.map fun d => d.length + 1)
    rw [List.map_map] at e3
    have e4 : ((fun n : Nat => (n : Int)) ∘ fun d : List Step => d.length + 1) = fun d : List Step => ((d.length : Nat) + 1 : Int) := rfl
    rw [e4] at e3
    simp only [vSum, listOf_lst, Option.bind, intsOf_map, Option.map_some]
    rw [e3, h.len]
  have n1 := need_lot_ok (S := S) hL
  refine ⟨G, ?_⟩
  unfold loP coP at *
  simp only [m_need_run, t_need_run]
  simp [n1, e0, h2, e2, e1]
end K05

end

section
namespace K05
open PySem PySem.Spec PyProof.Rows L2 MX
/-! when each deed acts -/
def pos (k : Nat) (c : List Nat) : List Nat := (c.zipIdx.filter fun p => decide (p.1 = k)).map (·.2)
def posP (k : Nat) (c : List Nat) : List PV := (pos k c).map fun i => PV.int (i : Nat)
def tiP (n : Nat) (c : List Nat) : PV := .lst ((List.range n).map fun k => .lst (posP k c))
theorem coP_enum (c : List Nat) : enumP 0 (c.map fun k => PV.int (k : Nat)) = c.zipIdx.map fun p => PV.tup [.int (p.2 : Nat), .int (p.1 : Nat)] := enumP_map _ 0 c
theorem length_of_ok {L : List (List Step)} {c : List Nat} (hL : LoOk L) (h : CoOk L c) : c.length ≤ 30 := by
  rw [h.len]
  have h1 : ∀ l : List (List Step), (∀ d ∈ l, d.length ≤ 5) → (l.map fun d => d.length + 1).sum ≤ 6 * l.length := fun l => by
    induction l with
    | nil => intro _; exact Nat.le_refl _
    | cons a l ih =>
      intro hl
      have := hl a (List.mem_cons_self ..)
      have := ih fun x hx => hl x (List.mem_cons_of_mem _ hx)
      simp only [List.map_cons, List.sum_cons, List.length_cons]
      omega
  have := h1 L fun d hd => (hL.de d hd).le
  have := hL.le
  omega
theorem pos_len (k : Nat) (c : List Nat) : (pos k c).length ≤ c.length := by
  unfold pos
  rw [List.length_map]
  exact Nat.le_trans (List.length_filter_le _ _) (by simp)
theorem times_1 {lo : PV} {c : List Nat} {k : Nat} {S : Sto} : lcL [some lo, some (coP c), some (.int (k : Nat)), none, none] (sgTup 2 (sgCons (sgName 3) (sgCons (sgName 4) sgNil))) t_times_of_1 t_times_of_2 (enumP 0 (c.map fun k => PV.int (k : Nat))) S = .ok (posP k c) S := by
  have e1 := lcL_map (sp := [some lo, some (coP c), some (.int (k : Nat)), none, none]) (t := sgTup 2 (sgCons (sgName 3) (sgCons (sgName 4) sgNil))) (c := t_times_of_1) (te := t_times_of_2) (S := S)
      (fun p : Nat × Nat => PV.tup [.int (p.2 : Nat), .int (p.1 : Nat)]) (fun p => PV.int (p.2 : Nat)) (fun p => decide (p.1 = k)) c.zipIdx fun p hp => by
        refine ⟨_, rfl, ?_, ?_⟩
        · have e : decide ((p.1 : Int) = (k : Int)) = decide (p.1 = k) := decide_eq_decide.mpr (by omega)
          simp only [t_times_of_1]
          simp [e]
        · intro _
          simp [t_times_of_2]
  rw [coP_enum, e1]
  congr 1
  unfold posP pos
  rw [List.map_map]; rfl
theorem posP_len {k : Nat} {c : List Nat} (h : c.length ≤ 30) : Fits (posP k c).length := by
  have := pos_len k c
  unfold posP
  rw [List.length_map]
  exact fits_of (by omega)
theorem times_2 {lo : PV} {c : List Nat} {k : Nat} {S : Sto} (hc : c.length ≤ 30) : t_times_of_3 [some lo, some (coP c), some (.int (k : Nat)), none, none] S = .ok (.lst (posP k c)) S := by
  have e1 := times_1 (lo := lo) (c := c) (k := k) (S := S)
  have h4 := posP_len (k := k) hc
  simp only [t_times_of_3]
  unfold coP at *
  simp [e1, h4]
theorem times_3 {lo : PV} {c : List Nat} {n : Nat} {S : Sto} (hc : c.length ≤ 30) : lcL [some lo, some (coP c), none, none, none] (sgName 2) stYes t_times_of_3 (rngP 0 n) S = .ok ((List.range n).map fun k => PV.lst (posP k c)) S := by
  rw [rngP0]
  exact lcL_map1 (fun k : Nat => PV.int (k : Nat)) (fun k => PV.lst (posP k c)) (List.range n) fun k hk => ⟨_, rfl, times_2 hc⟩
theorem rng1 {ta : Sx} {sp : Sl} {S S1 : Sto} {n : Nat} (h : ta sp S = .ok (.int (n : Nat)) S1) (hn : n ≤ 100000) : siRange1 ta sp S = .ok (.items (rngP 0 n)) S1 := by
  rw [s_siRange1]
  unfold Out.bind
  rw [h]
  show (if RngOk (n : Nat) then _ else _) = _
  rw [if_pos (rngOk_of (by omega) (by omega))]
  simp
/-- a comprehension whose source and turns are known -/
theorem sxLc_fz {ti : Si} {is : List Nat} {t : Sg} {c : St'} {te : Sx} {sp : Sl} {S S1 S2 : Sto} {xs ys : List PV} (h1 : ti sp S = .ok (.items xs) S1) (h2 : lcL (wipeP sp is) t c te xs S1 = .ok ys S2) (h3 : Fits ys.length) : sxLc fzL ti is t c te sp S = .ok (.lst ys) S2 := by
  rw [s_sxLc, h1]
  show (Out.pure (lcL (wipeP sp is) t c te xs S1) fun ys S2 => Out.of (fzL ys S2)) = _
  rw [h2]
  show Out.of (fzL _ _) = _
  rw [s_fzL, if_pos h3]
theorem times_of_ok {L : List (List Step)} {c : List Nat} {S : Sto} (hL : LoOk L) (h : CoOk L c) : m_times_of [loP L, coP c] S = .ok (tiP L.length c) S := by
  have h2 : Fits ((List.range L.length).map fun k => PV.lst (posP k c)).length := by
    rw [List.length_map, List.length_range]; exact fits_of (by have := hL.le; omega)
  have e1 : siRange1 (sxN vLen (saCons (sxVar 0) saNil)) [some (loP L), some (coP c), none, none, none] S = .ok (.items (rngP 0 L.length)) S := rng1 (by simp [loP]) (by have := hL.le; omega)
  have e2 := sxLc_fz (is := [2]) (t := sgName 2) (c := stYes) (te := t_times_of_3) e1 (times_3 (length_of_ok hL h)) h2
  simp only [m_times_of, t_times_of]
  simp [-s_sxLc, e2, tiP]
theorem need_all_ok {L : List (List Step)} {lv : List Str} {c : List Nat} {S : Sto} (hL : LoOk L) (h : lv.length = L.length) (hl : ∀ x ∈ lv, x ∈ lvls) (hc : CoOk L c) : ∃ G, m_need_all [loP L, lvP lv, coP c] S = .ok .non (S ++ G) := by
  obtain ⟨G, e⟩ := need_run_ok (S := S) hL hc
  exact ⟨G, by simp [m_need_all, t_need_all, need_levels_ok hL h hl, e]⟩
/-! who marks -/
def mrk (L : List (List Step)) (k : Nat) (w : Str) : List Nat := (L.zipIdx.filter fun p => !decide (p.2 = k) && decide ((true, w) ∈ p.1)).map (·.2)
theorem loP_enum (L : List (List Step)) : enumP 0 (L.map deP) = L.zipIdx.map fun p => PV.tup [.int (p.2 : Nat), deP p.1] := enumP_map _ 0 L
theorem mrk_len (L : List (List Step)) (k : Nat) (w : Str) : (mrk L k w).length ≤ L.length := by
  unfold mrk
  rw [List.length_map]
  exact Nat.le_trans (List.length_filter_le _ _) (by simp)
theorem markers_ok {L : List (List Step)} {k : Nat} {w : Str} {S : Sto} (hL : LoOk L) (hw : w ∈ words) : m_markers [loP L, .int (k : Nat), .str w] S = .ok (.lst ((mrk L k w).map fun i => PV.int (i : Nat))) S := by
  have h2 : Fits (mrk L k w).length := fits_of (by have := hL.le; have := mrk_len L k w; omega)
  have e1 := lcL_map (sp := [some (loP L), some (.int (k : Nat)), some (.str w), none, none]) (t := sgTup 2 (sgCons (sgName 3) (sgCons (sgName 4) sgNil))) (c := t_markers_1) (te := t_markers_2) (S := S)
      (fun p : List Step × Nat => PV.tup [.int (p.2 : Nat), deP p.1]) (fun p => PV.int (p.2 : Nat)) (fun p => !decide (p.2 = k) && decide ((true, w) ∈ p.1)) L.zipIdx fun p hp => by
        obtain ⟨j, q, _⟩ := zipIdx_mem hp
        have hd := hL.de _ (List.mem_of_getElem? q)
        have e2 := in_deP (s := (true, w)) (S := S) hw fun x hx => hd.w x hx
        simp only [stP, if_true] at e2
        refine ⟨_, rfl, ?_, ?_⟩
        · simp only [t_markers_1]
          by_cases hk : p.2 = k
          · simp [hk]
          · have hk' : ¬ ((p.2 : Int) = (k : Int)) := by omega
            simp [hk, hk', e2]
        · intro _
          simp [t_markers_2]
  rw [← loP_enum] at e1
  have h3 : ((List.filter (fun p : List Step × Nat => !decide (p.2 = k) && decide ((true, w) ∈ p.1)) L.zipIdx).map fun p => PV.int (p.2 : Nat)) = (mrk L k w).map fun i => PV.int (i : Nat) := by
    unfold mrk
    rw [List.map_map]; rfl
  rw [h3] at e1
  simp only [m_markers, t_markers]
  unfold loP at *
  simp [e1, h2]
end K05

end

section
namespace K05
open PySem PySem.Spec PyProof.Rows L2 MX
/-! pairs, the greatest of them -/
theorem pairLt (a b c d : Int) : PySem.W.dataLt (.tuple [.int a, .int b]) (.tuple [.int c, .int d]) = if a = c then (if b = d then false else decide (b < d)) else decide (a < c) := by
  have h := (PySem.W.dataLt_tuple [.int a, .int b] [.int c, .int d]).trans (PySem.W.lexAll_map [a, b] [c, d])
  rw [h]; rfl
def prD (p : Int × Int) : PyData := .tuple [.int p.1, .int p.2]
theorem alike_pairs (l : List (Int × Int)) : alikeB (l.map prD) = true := by
  unfold alikeB
  rw [Bool.and_eq_true, List.all_eq_true, List.all_eq_true]
  refine ⟨fun x hx => List.all_eq_true.mpr fun y hy => ?_, fun x hx => ?_⟩
  · obtain ⟨p, _, rfl⟩ := List.mem_map.mp hx
    obtain ⟨q, _, rfl⟩ := List.mem_map.mp hy
    simp [prD, PySem.W.alike, PySem.W.alikeAll]
  · obtain ⟨p, _, rfl⟩ := List.mem_map.mp hx
    rfl
theorem depth_pairs : ∀ l : List (Int × Int), PyData.depthAll (l.map prD) ≤ 1
  | [] => by simp [PyData.depthAll]
  | p :: l => by
    have := depth_pairs l
    simp only [List.map_cons, PyData.depthAll, prD, PyData.depth]
    omega
theorem gt_pairs {l : List (Int × Int)} {i j : Nat} {p q : Int × Int} (hi : l[i]? = some p) (hj : l[j]? = some q) : gtAt (l.map prD) i j = if q.1 = p.1 then (if q.2 = p.2 then false else decide (q.2 < p.2)) else decide (q.1 < p.1) := by
  rw [← pairLt]
  unfold gtAt
  rw [List.getD_eq_getElem?_getD, List.getD_eq_getElem?_getD, List.getElem?_map, List.getElem?_map, hi, hj]
  rfl
theorem argBest_pairs (l : List (Int × Int)) : ∀ k, k < l.length → argBest (gtAt (l.map prD)) k ≤ k ∧ ∀ j p q, j ≤ k → l[j]? = some p → l[argBest (gtAt (l.map prD)) k]? = some q → p.1 ≤ q.1
  | 0, _ => ⟨Nat.le_refl _, fun j p q hj hp hq => by
    have : j = 0 := by omega
    subst this
    have e : argBest (gtAt (l.map prD)) 0 = 0 := rfl
    rw [e, hp] at hq; cases hq; exact Int.le_refl _⟩
  | k + 1, hk => by
    obtain ⟨h1, h2⟩ := argBest_pairs l k (by omega)
    have hm : argBest (gtAt (l.map prD)) k < l.length := by omega
    have hmo := List.getElem?_eq_getElem hm
    have hko := List.getElem?_eq_getElem hk
    have g := gt_pairs hko hmo
    by_cases hb : gtAt (l.map prD) (k + 1) (argBest (gtAt (l.map prD)) k) = true
    · have e : argBest (gtAt (l.map prD)) (k + 1) = k + 1 := if_pos hb
      rw [e]
      have hlt : (l[argBest (gtAt (l.map prD)) k]).1 ≤ (l[k + 1]).1 := by
        rw [g] at hb
        split at hb
        · omega
        · have := of_decide_eq_true hb; omega
      refine ⟨Nat.le_refl _, fun j p q hj hp hq => ?_⟩
      rw [hko] at hq; cases hq
      by_cases hjk : j ≤ k
      · exact Int.le_trans (h2 j p _ hjk hp hmo) hlt
      · have : j = k + 1 := by omega
        subst this
        rw [hko] at hp; cases hp; exact Int.le_refl _
    · have e : argBest (gtAt (l.map prD)) (k + 1) = argBest (gtAt (l.map prD)) k := if_neg hb
      rw [e]
      have hge : (l[k + 1]).1 ≤ (l[argBest (gtAt (l.map prD)) k]).1 := by
        rw [g] at hb
        split at hb
        · omega
        · have := of_decide_eq_false (Bool.not_eq_true _ ▸ hb); omega
      refine ⟨by omega, fun j p q hj hp hq => ?_⟩
      by_cases hjk : j ≤ k
      · exact h2 j p q hjk hp hq
      · have : j = k + 1 := by omega
        subst this
        rw [hko] at hp; cases hp
        rw [hmo] at hq; cases hq
        exact hge
/-! the last moments -/
theorem pos_mem {k i : Nat} {c : List Nat} : i ∈ pos k c ↔ c[i]? = some k := by
  unfold pos
  rw [List.mem_map]
  constructor
  · rintro ⟨p, hp, rfl⟩
    obtain ⟨h1, h2⟩ := List.mem_filter.mp hp
    obtain ⟨j, h3, h4⟩ := zipIdx_mem h1
    have e : p.1 = k := of_decide_eq_true h2
    rw [show p.2 = j by omega, h3, e]
  · intro h
    refine ⟨(k, i), List.mem_filter.mpr ⟨List.mem_of_getElem? (i := i) ?_, by simp⟩, rfl⟩
    rw [List.getElem?_zipIdx, h]; simp
theorem pos_length {k : Nat} {c : List Nat} : (pos k c).length = c.count k := by
  unfold pos
  rw [List.length_map]
  have : ∀ (l : List Nat) (i : Nat), ((l.zipIdx i).filter fun p => decide (p.1 = k)).length = l.count k := fun l => by
    induction l with
    | nil => intro i; rfl
    | cons a l ih =>
      intro i
      rw [List.zipIdx_cons, List.filter_cons, List.count_cons]
      by_cases h : a = k
      · simp [h, ih]
      · simp [h, ih]
  exact this c 0
def lastN (k : Nat) (c : List Nat) : Nat := (pos k c).getLastD 0
theorem last_get {k : Nat} {c : List Nat} (h : 0 < c.count k) : (pos k c).getLast? = some (lastN k c) ∧ c[lastN k c]? = some k := by
  have hne : pos k c ≠ [] := fun e => by rw [← pos_length, e] at h; exact absurd h (Nat.lt_irrefl 0)
  have e : (pos k c).getLast? = some (lastN k c) := by
    unfold lastN
    rw [List.getLastD_eq_getLast?]
    cases q : (pos k c).getLast? with
    | none => exact absurd (List.getLast?_eq_none_iff.mp q) hne
    | some x => rfl
  exact ⟨e, pos_mem.mp (List.mem_of_getLast? e)⟩
theorem last_inj {k j : Nat} {c : List Nat} (hk : 0 < c.count k) (hj : 0 < c.count j) (h : lastN k c = lastN j c) : k = j := by
  have e1 := (last_get hk).2
  have e2 := (last_get hj).2
  rw [h, e2] at e1
  exact (Option.some.inj e1).symm
/-! whom a look sees -/
def stp (c : List Nat) (b : Option Nat) (o : Nat) : Option Nat := match b with
  | none => some o
  | some b' => if lastN b' c < lastN o c then some o else some b'
def cnd (L : List (List Step)) (c : List Nat) (k : Nat) (w : Str) (m : Nat) : List Nat := (mrk L k w).filter fun o => decide (lastN o c < m)
def sgt (L : List (List Step)) (c : List Nat) (k : Nat) (w : Str) (m : Nat) : Option Nat := (cnd L c k w m).foldl (stp c) none
theorem fold_some {c : List Nat} : ∀ (l : List Nat) (b : Nat), ∃ r, l.foldl (stp c) (some b) = some r ∧ r ∈ b :: l ∧ ∀ x ∈ b :: l, lastN x c ≤ lastN r c
  | [], b => ⟨b, rfl, List.mem_cons_self .., fun x hx => by simp at hx; subst hx; exact Nat.le_refl _⟩
  | o :: l, b => by
    by_cases h : lastN b c < lastN o c
    · obtain ⟨r, h1, h2, h3⟩ := fold_some (c := c) l o
      refine ⟨r, by simp only [List.foldl_cons, stp, if_pos h]; exact h1, List.mem_cons_of_mem _ h2, fun x hx => ?_⟩
      rcases List.mem_cons.mp hx with rfl | hx
      · have := h3 o (List.mem_cons_self ..); omega
      · exact h3 x hx
    · obtain ⟨r, h1, h2, h3⟩ := fold_some (c := c) l b
      refine ⟨r, by simp only [List.foldl_cons, stp, if_neg h]; exact h1, ?_, fun x hx => ?_⟩
      · rcases List.mem_cons.mp h2 with rfl | h2
        · exact List.mem_cons_self ..
        · exact List.mem_cons_of_mem _ (List.mem_cons_of_mem _ h2)
      · rcases List.mem_cons.mp hx with rfl | hx
        · exact h3 x (List.mem_cons_self ..)
        · rcases List.mem_cons.mp hx with rfl | hx
          · have := h3 b (List.mem_cons_self ..); omega
          · exact h3 x (List.mem_cons_of_mem _ hx)
theorem fold_max {c : List Nat} {l : List Nat} {m : Nat} (hc : ∀ o ∈ l, 0 < c.count o) (h : m ∈ l) (hm : ∀ x ∈ l, lastN x c ≤ lastN m c) : l.foldl (stp c) none = some m := by
  cases l with
  | nil => cases h
  | cons b l =>
    obtain ⟨r, h1, h2, h3⟩ := fold_some (c := c) l b
    have e : (b :: l).foldl (stp c) none = some r := h1
    rw [e]
    have h4 := h3 m h
    have h5 := hm r h2
    rw [last_inj (hc r h2) (hc m h) (by omega)]
def opP : Option Nat → PV
  | none => .non
  | some o => .int (o : Nat)
end K05

end

section
namespace K05
open PySem PySem.Spec PyProof.Rows L2 MX
theorem it_lst {xs : List PV} {i : Nat} {x : PV} {S : Sto} (h : xs[i]? = some x) : vItem (.lst xs) (.int (i : Nat)) S = some (x, S) := by
  rw [s_vItem]; simp [h]
theorem it_tup {xs : List PV} {i : Nat} {x : PV} {S : Sto} (h : xs[i]? = some x) : vItem (.tup xs) (.int (i : Nat)) S = some (x, S) := by
  rw [s_vItem]; simp [h]
theorem it_last {xs : List PV} {x : PV} {S : Sto} (h : xs.getLast? = some x) : vItem (.lst xs) (.int (-1)) S = some (x, S) := by
  rw [s_vItem]; simp [MX.atI_last, h]
theorem it_ti {n k : Nat} {c : List Nat} {S : Sto} (h : k < n) : vItem (tiP n c) (.int (k : Nat)) S = some (.lst (posP k c), S) :=
  it_lst (by rw [List.getElem?_map, List.getElem?_range h]; rfl)
theorem it_posP {k i x : Nat} {c : List Nat} {S : Sto} (h : (pos k c)[i]? = some x) : vItem (.lst (posP k c)) (.int (i : Nat)) S = some (.int (x : Nat), S) :=
  it_lst (by unfold posP; rw [List.getElem?_map, h]; rfl)
theorem posP_last {k : Nat} {c : List Nat} (h : 0 < c.count k) : (posP k c).getLast? = some (.int (lastN k c : Nat)) := by
  unfold posP
  rw [List.getLast?_map, (last_get h).1]; rfl
theorem it_lo {L : List (List Step)} {k : Nat} {d : List Step} {S : Sto} (h : L[k]? = some d) : vItem (loP L) (.int (k : Nat)) S = some (deP d, S) := it_tup (by rw [List.getElem?_map, h]; rfl)
theorem it_de {d : List Step} {p : Nat} {s : Step} {S : Sto} (h : d[p]? = some s) : vItem (deP d) (.int (p : Nat)) S = some (stP s, S) := it_tup (by rw [List.getElem?_map, h]; rfl)
theorem it_st {s : Step} {S : Sto} : vItem (stP s) (.int 1) S = some (.str s.2, S) := rfl
theorem it_lv {lv : List Str} {k : Nat} {x : Str} {S : Sto} (h : lv[k]? = some x) : vItem (lvP lv) (.int (k : Nat)) S = some (.str x, S) := it_tup (by rw [List.getElem?_map, h]; rfl)
theorem mrk_lt {L : List (List Step)} {k o : Nat} {w : Str} (h : o ∈ mrk L k w) : o < L.length := by
  unfold mrk at h
  obtain ⟨p, hp, rfl⟩ := List.mem_map.mp h
  obtain ⟨j, h3, h4⟩ := zipIdx_mem (List.mem_filter.mp hp).1
  have := (List.getElem?_eq_some_iff.mp h3).1
  omega
theorem cnt_pos {L : List (List Step)} {c : List Nat} {k : Nat} (h : CoOk L c) (hk : k < L.length) : 0 < c.count k := by
  rw [h.cnt k _ (List.getElem?_eq_getElem hk)]; omega
def enP (c : List Nat) (l : List Nat) : List (Int × Int) := l.map fun o => ((lastN o c : Nat), (o : Nat))
def prP (p : Int × Int) : PV := .tup [.int p.1, .int p.2]
theorem ends_ok {L : List (List Step)} {c : List Nat} {k m : Nat} {w : Str} {a b d e : Option PV} {S : Sto} (h : CoOk L c) :
    lcL [a, b, some (tiP L.length c), d, e, some (.int (m : Nat)), none, none] (sgName 7) t_sight_of_1 t_sight_of_2 ((mrk L k w).map fun i => PV.int (i : Nat)) S = .ok ((enP c (cnd L c k w m)).map prP) S := by
  rw [lcL_map (fun i : Nat => PV.int (i : Nat)) (fun o => prP ((lastN o c : Nat), (o : Nat))) (fun o => decide (lastN o c < m)) _ fun o ho => ?_]
  · unfold enP cnd
    rw [List.map_map]; rfl
  · have f1 := it_ti (c := c) (S := S) (mrk_lt ho)
    have f2 := it_last (S := S) (posP_last (cnt_pos h (mrk_lt ho)))
    refine ⟨_, rfl, ?_, fun _ => ?_⟩
    · simp only [t_sight_of_1]
      simp [-s_vItem, f1, f2, vNeg]
    · simp only [t_sight_of_2]
      simp [-s_vItem, f1, f2, vNeg, prP]
theorem toDs_pr : ∀ l : List (Int × Int), toDs (l.map prP) = some (l.map prD)
  | [] => rfl
  | p :: l => by simp [toDs, toDs_pr l, toD, prP, prD]
theorem max_pr {l : List (Int × Int)} {S : Sto} (hl : 0 < l.length) : ∃ (m : Nat) (q : Int × Int), l[m]? = some q ∧ (∀ x ∈ l, x.1 ≤ q.1) ∧ vMaxL [.lst (l.map prP)] S = some (prP q, S) := by
  obtain ⟨h1, h2⟩ := argBest_pairs l (l.length - 1) (by omega)
  have hm : argBest (gtAt (l.map prD)) (l.length - 1) < l.length := by omega
  refine ⟨_, _, List.getElem?_eq_getElem hm, fun x hx => ?_, ?_⟩
  · obtain ⟨j, hj⟩ := List.getElem?_of_mem hx
    have := (List.getElem?_eq_some_iff.mp hj).1
    exact h2 j x _ (by omega) hj (List.getElem?_eq_getElem hm)
  · unfold vMaxL
    simp only [listOf_lst, toDs_pr]
    rw [if_pos ⟨by rw [List.length_map]; exact hl, alike_pairs l, Nat.le_trans (depth_pairs l) (by decide)⟩, List.length_map, List.getElem?_map, List.getElem?_eq_getElem hm]
    rfl
theorem sm_prP {p : Int × Int} (h1 : p.1.natAbs < 10 ^ 18) (h2 : p.2.natAbs < 10 ^ 18) : sm (prP p) = true := by
  simp only [prP, sm, sms, decide_eq_true h1, decide_eq_true h2]; rfl
theorem sight_of_ok {L : List (List Step)} {lv : List Str} {c : List Nat} {k p m : Nat} {d : List Step} {s : Step} {x : Str} {S : Sto} (hL : LoOk L) (h : CoOk L c) (hd : L[k]? = some d) (hs : d[p]? = some s) (hx : lv[k]? = some x) (hxl : x ∈ lvls)
    (hm : (pos k c)[if x = "late" then p else 0]? = some m) : m_sight_of [loP L, lvP lv, tiP L.length c, .int (k : Nat), .int (p : Nat)] S = .ok (opP (sgt L c k s.2 m)) S := by
  have hk : k < L.length := (List.getElem?_eq_some_iff.mp hd).1
  have hw : s.2 ∈ words := (hL.de d (List.mem_of_getElem? hd)).w s (List.mem_of_getElem? hs)
  have f1 := it_ti (c := c) (S := S) hk
  have f2 := it_lv (S := S) hx
  have f3 : vEq (.str x) (.str "late") S = some (.bl (decide (x = "late")), S) := vEq_str (lvl_ok (S := S) hxl).2 (by decide +kernel)
  have f5 := markers_ok (k := k) (S := S) hL hw
  have f6 := it_lo (S := S) hd
  have f7 := it_de (S := S) hs
  have f8 := it_st (s := s) (S := S)
  have f9 := ends_ok (k := k) (m := m) (w := s.2) (a := some (loP L)) (b := some (lvP lv)) (d := some (.int (k : Nat))) (e := some (.int (p : Nat))) (S := S) h
  have cl : (cnd L c k s.2 m).length ≤ 5 := Nat.le_trans (List.length_filter_le _ _) (Nat.le_trans (mrk_len L k s.2) hL.le)
  have f10 : Fits (enP c (cnd L c k s.2 m)).length := fits_of (by unfold enP; rw [List.length_map]; omega)
  have fI : (sxIf (stB (sx2 vEq (sx2 vItem (sxVar 1) (sxVar 3)) (sxC (.str "late")))) (sxVar 4) (sxC (.int 0))) [some (loP L), some (lvP lv), some (tiP L.length c), some (.int (k : Nat)), some (.int (p : Nat)), none, none, none] S = .ok (.int ((if x = "late" then p else 0 : Nat) : Nat)) S := by
    by_cases e : x = "late"
    · rw [decide_eq_true e] at f3
      rw [if_pos e]
      simp [-s_vItem, f2, f3]
    · rw [decide_eq_false e] at f3
      rw [if_neg e]
      simp [-s_vItem, f2, f3]
  have f4 := it_posP (S := S) hm
  have key : (sxIf (stB (sx2 vNe (sxVar 6) (sxN vLst saNil))) (sx2 vItem (sxN vMaxL (saCons (sxVar 6) saNil)) (sxC (.int 1))) (sxC .non)) [some (loP L), some (lvP lv), some (tiP L.length c), some (.int (k : Nat)), some (.int (p : Nat)), some (.int (m : Nat)), some (.lst ((enP c (cnd L c k s.2 m)).map prP)), none] S = .ok (opP (sgt L c k s.2 m)) S := by
    have hsm : sm (.lst ((enP c (cnd L c k s.2 m)).map prP)) = true := by
      have hc := length_of_ok hL h
      simp only [sm]
      refine sms_map fun q hq => ?_
      obtain ⟨o, ho, rfl⟩ := List.mem_map.mp hq
      have ho2 := mrk_lt (List.mem_filter.mp ho).1
      have h1 := (List.getElem?_eq_some_iff.mp (last_get (cnt_pos h ho2)).2).1
      have h2 := hL.le
      exact sm_prP (by simp only [Int.natAbs_natCast]; omega) (by simp only [Int.natAbs_natCast]; omega)
    have hdp : dp (.lst ((enP c (cnd L c k s.2 m)).map prP)) ≤ 64 := by
      have := dps_map (f := prP) (n := 1) (l := enP c (cnd L c k s.2 m)) fun a _ => by simp [prP, dp, dps]
      simp only [dp]; omega
    have g1 := vNe_sm (S := S) hsm hdp (b := .lst []) (by decide) (by decide)
    cases hcn : cnd L c k s.2 m with
    | nil =>
      rw [hcn] at g1
      have g2 : vNe (.lst ((enP c []).map prP)) (.lst []) S = some (.bl false, S) := g1
      have e : sgt L c k s.2 m = none := by unfold sgt; rw [hcn]; rfl
      rw [e]
      simp [-s_vItem, g2, opP]
    | cons o l =>
      rw [← hcn]
      have g2 : vNe (.lst ((enP c (cnd L c k s.2 m)).map prP)) (.lst []) S = some (.bl true, S) := by
        rw [g1, hcn]; rfl
      obtain ⟨i, q, q1, q2, q3⟩ := max_pr (l := enP c (cnd L c k s.2 m)) (S := S) (by unfold enP; rw [List.length_map, hcn]; exact Nat.zero_lt_succ _)
      obtain ⟨o', ho', rfl⟩ := List.mem_map.mp (List.mem_of_getElem? q1)
      have e : sgt L c k s.2 m = some o' := by
        unfold sgt
        refine fold_max (fun o ho => cnt_pos h (mrk_lt (List.mem_filter.mp ho).1)) ho' fun y hy => ?_
        have := q2 _ (List.mem_map.mpr ⟨y, hy, rfl⟩)
        simp only at this
        omega
      have g3 : vItem (prP ((lastN o' c : Nat), (o' : Nat))) (.int 1) S = some (.int (o' : Nat), S) := rfl
      rw [e]
      simp [-s_vItem, g2, q3, g3, opP]
  simp only [m_sight_of, t_sight_of]
  simp [-s_vItem, -s_sxIf, f1, fI, f4, f5, f6, f7, f8, f9, f10, key]
end K05

end

section
namespace K05
open PySem PySem.Spec PyProof.Rows L2 MX
def isLk (d : List Step) (p : Nat) : Bool := match d[p]? with
  | some s => !s.1
  | none => false
def lks (d : List Step) : List Nat := (List.range d.length).filter (isLk d)
def mom (c : List Nat) (x : Str) (k p : Nat) : Nat := ((pos k c)[if x = "late" then p else 0]?).getD 0
def wrd (d : List Step) (p : Nat) : Str := ((d[p]?).map (·.2)).getD ""
def ent (L : List (List Step)) (lv : List Str) (c : List Nat) (k : Nat) (d : List Step) (p : Nat) : PV := .tup [.int (k : Nat), .int (p : Nat), opP (sgt L c k (wrd d p) (mom c ((lv[k]?).getD "") k p))]
def rowD (L : List (List Step)) (lv : List Str) (c : List Nat) (q : List Step × Nat) : List PV := (lks q.1).map (ent L lv c q.2 q.1)
def due (L : List (List Step)) (lv : List Str) (c : List Nat) : List PV := L.zipIdx.flatMap (rowD L lv c)
structure AllOk (L : List (List Step)) (lv : List Str) (c : List Nat) : Prop where
  lo : LoOk L
  n : lv.length = L.length
  l : ∀ x ∈ lv, x ∈ lvls
  co : CoOk L c
theorem mom_get {L : List (List Step)} {c : List Nat} {k p : Nat} {d : List Step} {x : Str} (h : CoOk L c) (hd : L[k]? = some d) (hp : p < d.length) : (pos k c)[if x = "late" then p else 0]? = some (mom c x k p) := by
  unfold mom
  have hl : (pos k c).length = d.length + 1 := by rw [pos_length]; exact h.cnt k d hd
  have hi : (if x = "late" then p else 0) < (pos k c).length := by split <;> omega
  rw [List.getElem?_eq_getElem hi]; rfl
theorem sight_ent {L : List (List Step)} {lv : List Str} {c : List Nat} {k p : Nat} {d : List Step} {s : Step} {S : Sto} (h : AllOk L lv c) (hd : L[k]? = some d) (hs : d[p]? = some s) :
    m_sight_of [loP L, lvP lv, tiP L.length c, .int (k : Nat), .int (p : Nat)] S = .ok (opP (sgt L c k (wrd d p) (mom c ((lv[k]?).getD "") k p))) S := by
  have hk : k < lv.length := by rw [h.n]; exact (List.getElem?_eq_some_iff.mp hd).1
  have hx := List.getElem?_eq_getElem hk
  have hp := (List.getElem?_eq_some_iff.mp hs).1
  have e := sight_of_ok (S := S) h.lo h.co hd hs hx (h.l _ (List.getElem_mem hk)) (mom_get h.co hd hp)
  have e1 : wrd d p = s.2 := by unfold wrd; rw [hs]; rfl
  have e2 : (lv[k]?).getD "" = lv[k] := by rw [hx]; rfl
  rw [e1, e2]; exact e
theorem cnt_le (d : List Step) (j : Nat) : ((List.range j).filter (isLk d)).length ≤ j := Nat.le_trans (List.length_filter_le _ _) (by simp)
theorem seen_inner {L : List (List Step)} {lv : List Str} {c : List Nat} {k : Nat} {d : List Step} {acc : List PV} {a b e : Option PV} {S : Sto} (h : AllOk L lv c) (hd : L[k]? = some d) (hacc : acc.length ≤ 1000) :
    ∃ a' b' e', forL (sgTup 2 (sgCons (sgName 6) (sgCons (sgTup 2 (sgCons (sgName 7) (sgCons (sgName 8) sgNil))) sgNil))) t_seen_in_1 (enumP 0 (d.map stP)) [some (loP L), some (lvP lv), some (tiP L.length c), some (.ref S.length), some (.int (k : Nat)), some (deP d), a, b, e] (S ++ [.lst acc]) =
      .nx [some (loP L), some (lvP lv), some (tiP L.length c), some (.ref S.length), some (.int (k : Nat)), some (deP d), a', b', e'] (S ++ [.lst (acc ++ rowD L lv c (d, k))]) := by
  obtain ⟨sp', S', h1, h2, a', b', e', h3⟩ := forL_inv0 (t := sgTup 2 (sgCons (sgName 6) (sgCons (sgTup 2 (sgCons (sgName 7) (sgCons (sgName 8) sgNil))) sgNil))) (b := t_seen_in_1)
    (fun j sp S' => S' = S ++ [.lst (acc ++ ((List.range j).filter (isLk d)).map (ent L lv c k d))] ∧ ∃ a b e, sp = [some (loP L), some (lvP lv), some (tiP L.length c), some (.ref S.length), some (.int (k : Nat)), some (deP d), a, b, e])
    (xs := enumP 0 (d.map stP)) (sp := [some (loP L), some (lvP lv), some (tiP L.length c), some (.ref S.length), some (.int (k : Nat)), some (deP d), a, b, e]) (S := S ++ [.lst acc]) ⟨by simp, _, _, _, rfl⟩ (fun j x sp S' hx ⟨e1, a, b, e, e2⟩ => by
      subst e1 e2
      obtain ⟨y, h1, rfl⟩ := enumP0_get hx
      obtain ⟨s, q, rfl⟩ := map_get h1
      have hj := (List.getElem?_eq_some_iff.mp q).1
      have hd5 := (h.lo.de d (List.mem_of_getElem? hd)).le
      have hr : (List.range (j + 1)).filter (isLk d) = (List.range j).filter (isLk d) ++ if s.1 = true then [] else [j] := by
        rw [List.range_succ, List.filter_append]
        congr 1
        have : isLk d j = !s.1 := by unfold isLk; rw [q]
        cases hs : s.1 <;> simp [this, hs]
      have f1 := sight_ent (S := S ++ [SO.lst (acc ++ ((List.range j).filter (isLk d)).map (ent L lv c k d))]) h hd q
      have f2 : Fits (acc.length + ((List.range j).filter (isLk d)).length + 1) := fits_of (by
        have := cnt_le d j
        omega)
      obtain ⟨b0, w⟩ := s
      cases b0 with
      | true =>
        have g : ∀ S, vEq (.str "mark") (.str "look") S = some (.bl false, S) := fun S => by
          rw [vEq_str (by decide +kernel) (by decide +kernel), decide_eq_false (by decide)]
        refine ⟨_, [some (loP L), some (lvP lv), some (tiP L.length c), some (.ref S.length), some (.int (k : Nat)), some (deP d), some (.int (j : Nat)), some (.str "mark"), some (.str w)], S ++ [SO.lst (acc ++ ((List.range j).filter (isLk d)).map (ent L lv c k d))], rfl, .inl ?_, ?_, _, _, _, rfl⟩
        · simp only [t_seen_in_1]
          simp [-List.length_append, -List.append_assoc, g]
        · rw [hr]; simp
      | false =>
        have g : ∀ S, vEq (.str "look") (.str "look") S = some (.bl true, S) := fun S => by
          rw [vEq_str (by decide +kernel) (by decide +kernel), decide_eq_true rfl]
        refine ⟨_, [some (loP L), some (lvP lv), some (tiP L.length c), some (.ref S.length), some (.int (k : Nat)), some (deP d), some (.int (j : Nat)), some (.str "look"), some (.str w)], S ++ [SO.lst (acc ++ ((List.range (j + 1)).filter (isLk d)).map (ent L lv c k d))], rfl, .inl ?_, rfl, _, _, _, rfl⟩
        rw [hr]
        simp only [t_seen_in_1]
        simp [-List.length_append, -List.append_assoc, g, f1, f2, MX.isL, MX.listOf]
        simp [ent, f2])
  refine ⟨a', b', e', ?_⟩
  rw [h1, h2, h3, enumP_length, List.length_map]; rfl
theorem row_len {L : List (List Step)} {lv : List Str} {c : List Nat} {d : List Step} {k : Nat} (h : d.length ≤ 5) : (rowD L lv c (d, k)).length ≤ 5 := by
  unfold rowD lks
  rw [List.length_map]
  exact Nat.le_trans (cnt_le d d.length) h
theorem seen_in_ok {L : List (List Step)} {lv : List Str} {c : List Nat} {S : Sto} (h : AllOk L lv c) : m_seen_in [loP L, lvP lv, tiP L.length c] S = .ok (.ref S.length) (S ++ [.lst (due L lv c)]) := by
  obtain ⟨sp', S', h1, ⟨h2, h5⟩, a', b', d', e', f', h3⟩ := forL_inv0 (t := sgTup 2 (sgCons (sgName 4) (sgCons (sgName 5) sgNil))) (b := t_seen_in_2)
    (fun j sp S' => (S' = S ++ [.lst ((L.zipIdx.take j).flatMap (rowD L lv c))] ∧ ((L.zipIdx.take j).flatMap (rowD L lv c)).length ≤ 5 * j) ∧ ∃ a b d e f, sp = [some (loP L), some (lvP lv), some (tiP L.length c), some (.ref S.length), a, b, d, e, f])
    (xs := enumP 0 (L.map deP)) (sp := [some (loP L), some (lvP lv), some (tiP L.length c), some (.ref S.length), none, none, none, none, none]) (S := S ++ [.lst []]) ⟨⟨by simp, by simp⟩, _, _, _, _, _, rfl⟩ (fun j x sp S' hx ⟨⟨e1, e0⟩, a, b, d, e, f, e2⟩ => by
      subst e1 e2
      obtain ⟨y, h1, rfl⟩ := enumP0_get hx
      obtain ⟨dd, q, rfl⟩ := map_get h1
      have hj := (List.getElem?_eq_some_iff.mp q).1
      have hL5 := h.lo.le
      have ht : (L.zipIdx.take (j + 1)).flatMap (rowD L lv c) = (L.zipIdx.take j).flatMap (rowD L lv c) ++ rowD L lv c (dd, j) := by
        have : L.zipIdx[j]? = some (dd, j) := by rw [List.getElem?_zipIdx, q]; simp
        rw [List.take_add_one, this]
        simp
      obtain ⟨a', b', e', hi⟩ := seen_inner (k := j) (acc := (L.zipIdx.take j).flatMap (rowD L lv c)) (a := d) (b := e) (e := f) (S := S) h q (by omega)
      refine ⟨_, [some (loP L), some (lvP lv), some (tiP L.length c), some (.ref S.length), some (.int (j : Nat)), some (deP dd), a', b', e'], S ++ [.lst ((L.zipIdx.take (j + 1)).flatMap (rowD L lv c))], rfl, .inl ?_, ⟨rfl, ?_⟩, _, _, _, _, _, rfl⟩
      · rw [ht]
        simp only [t_seen_in_2]
        unfold deP at hi ⊢
        simp [-List.append_assoc, hi]
      · rw [ht, List.length_append]
        have := row_len (L := L) (lv := lv) (c := c) (k := j) (h.lo.de dd (List.mem_of_getElem? q)).le
        omega)
  have e5 : L.zipIdx.take (enumP 0 (L.map deP)).length = L.zipIdx := by
    rw [enumP_length, List.length_map]
    exact List.take_of_length_le (by simp)
  rw [e5] at h2
  subst h2 h3
  simp only [m_seen_in, t_seen_in]
  unfold loP at *
  simp [h1, due]
theorem seen_ok {L : List (List Step)} {lv : List Str} {c : List Nat} {S : Sto} (h : AllOk L lv c) : ∃ G, m_seen [loP L, lvP lv, coP c] S = .ok (.tup (due L lv c)) (S ++ G) := by
  obtain ⟨G, e⟩ := need_all_ok (S := S) h.lo h.n h.l h.co
  have e2 := times_of_ok (S := S ++ G) h.lo h.co
  have e3 := seen_in_ok (S := S ++ G) h
  refine ⟨G ++ [.lst (due L lv c)], ?_⟩
  have e4 : (S ++ G ++ [SO.lst (due L lv c)])[(S ++ G).length]? = some (.lst (due L lv c)) := by simp
  simp only [m_seen, t_seen]
  simp [-List.append_assoc, -List.length_append, e, e2, e3, e4, MX.listOf]
  exact List.append_assoc ..
end K05

end

section
namespace K05
open PySem PySem.Spec PyProof.Rows L2 MX
theorem pos_snoc {k j x : Nat} {c : List Nat} (h : c[j]? = some x) : pos k (c.take (j + 1)) = pos k (c.take j) ++ if x = k then [j] else [] := by
  have hj := (List.getElem?_eq_some_iff.mp h).1
  unfold pos
  rw [List.take_add_one, h]
  show (((c.take j ++ [x]).zipIdx.filter _).map _) = _
  rw [List.zipIdx_append, List.filter_append, List.map_append]
  congr 1
  have : (c.take j).length = j := by rw [List.length_take]; omega
  rw [this]
  by_cases e : x = k <;> simp [e]
theorem clk_new {sp : Sl} : ∀ (l : List (List Step)) (S : Sto), lcL sp (sgName 5) stYes t_l_clocks_1 (l.map deP) S = .ok ((List.range l.length).map fun i => PV.ref (S.length + i)) (S ++ List.replicate l.length (.lst []))
  | [], S => by simp [lcL]
  | d :: l, S => by
    have ih := clk_new (sp := sp) l (S ++ [.lst []])
    have e : t_l_clocks_1 (sp.set 5 (some (deP d))) S = .ok (.ref S.length) (S ++ [.lst []]) := by simp [t_l_clocks_1]
    have e2 : ∀ a : PV, (sgName 5) a sp S = some (sp.set 5 (some a)) := fun a => rfl
    show (match sgName 5 (deP d) sp S with
      | none => Out.stuck
      | some sp1 => (stYes sp1 S).pure fun k S1 => if k = true then (t_l_clocks_1 sp1 S1).pure fun y S2 => (lcL sp (sgName 5) stYes t_l_clocks_1 (l.map deP) S2).pure fun ys S3 => .ok (y :: ys) S3 else lcL sp (sgName 5) stYes t_l_clocks_1 (l.map deP) S1) = _
    rw [e2]
    show (Out.pure (t_l_clocks_1 (sp.set 5 (some (deP d))) S) fun y S2 => (lcL sp (sgName 5) stYes t_l_clocks_1 (l.map deP) S2).pure fun ys S3 => Out.ok (y :: ys) S3) = _
    rw [e]
    show (Out.pure (lcL sp (sgName 5) stYes t_l_clocks_1 (l.map deP) (S ++ [.lst []])) fun ys S3 => Out.ok (PV.ref S.length :: ys) S3) = _
    rw [ih]
    show Out.ok _ _ = _
    congr 1
    · rw [List.length_cons, List.range_succ_eq_map, List.map_cons, List.map_map]
      congr 1
      exact List.map_congr_left fun i _ => by simp only [Function.comp, List.length_append, List.length_singleton]; congr 1; omega
    · rw [List.append_assoc, List.length_cons, List.replicate_succ]; rfl
def refsP (b n : Nat) : PV := .lst ((List.range n).map fun i => PV.ref (b + i))
def Clk (S : Sto) (b n : Nat) (c : List Nat) : Prop := ∀ k, k < n → S[b + k]? = some (.lst (posP k c))
theorem it_refs {b n k : Nat} {S : Sto} (h : k < n) : vItem (refsP b n) (.int (k : Nat)) S = some (.ref (b + k), S) := it_lst (by rw [List.getElem?_map, List.getElem?_range h]; rfl)
theorem it_ref {r i : Nat} {xs : List PV} {x : PV} {S : Sto} (hr : S[r]? = some (.lst xs)) (h : xs[i]? = some x) : vItem (.ref r) (.int (i : Nat)) S = some (x, S) := by
  rw [s_vItem]; simp [MX.seqOf, hr, h]
theorem it_refl {r : Nat} {xs : List PV} {x : PV} {S : Sto} (hr : S[r]? = some (.lst xs)) (h : xs.getLast? = some x) : vItem (.ref r) (.int (-1)) S = some (x, S) := by
  rw [s_vItem]; simp [MX.seqOf, hr, MX.atI_last, h]
theorem clocks_ok {L : List (List Step)} {c : List Nat} {S : Sto} (hL : LoOk L) (h : CoOk L c) : ∃ E : Sto, m_l_clocks [loP L, coP c] S = .ok (refsP S.length L.length) (S ++ E) ∧ E.length = L.length ∧ ∀ k, k < L.length → E[k]? = some (.lst (posP k c)) := by
  have e0 := clk_new (sp := [some (loP L), some (coP c), none, none, none, none]) L S
  obtain ⟨sp', S', h1, ⟨E, rfl, h3, h4⟩, a', b', d', h5⟩ := forL_inv0 (t := sgTup 2 (sgCons (sgName 3) (sgCons (sgName 4) sgNil))) (b := t_l_clocks_2)
    (fun j sp S' => (∃ E : Sto, S' = S ++ E ∧ E.length = L.length ∧ ∀ k, k < L.length → E[k]? = some (SO.lst (posP k (c.take j)))) ∧ ∃ a b d, sp = [some (loP L), some (coP c), some (refsP S.length L.length), a, b, d])
    (xs := enumP 0 (c.map fun k => PV.int (k : Nat))) (sp := [some (loP L), some (coP c), some (refsP S.length L.length), none, none, none]) (S := S ++ List.replicate L.length (.lst [])) ⟨⟨_, rfl, by simp, fun k hk => by rw [List.getElem?_replicate, if_pos hk]; rfl⟩, _, _, _, rfl⟩ (fun j x sp S' hx ⟨⟨E, e1, hl, hE⟩, a, b, d, e2⟩ => by
      subst e1 e2
      obtain ⟨y, h1, rfl⟩ := enumP0_get hx
      obtain ⟨k, q, rfl⟩ := map_get h1
      have hk := h.lt k (List.mem_of_getElem? q)
      have hc := length_of_ok hL h
      have g1 := it_refs (b := S.length) (S := S ++ E) hk
      have g2 : (S ++ E)[S.length + k]? = some (.lst (posP k (c.take j))) := by
        rw [List.getElem?_append_right (by omega)]
        rw [show S.length + k - S.length = k by omega]; exact hE k hk
      have g3 : Fits ((posP k (c.take j)).length + 1) := fits_of (by
        have := pos_len k (c.take j)
        unfold posP
        rw [List.length_map]
        have h9 : (c.take j).length ≤ c.length := by rw [List.length_take]; omega
        omega)
      refine ⟨_, [some (loP L), some (coP c), some (refsP S.length L.length), some (.int (j : Nat)), some (.int (k : Nat)), d], S ++ E.set k (.lst (posP k (c.take j) ++ [.int (j : Nat)])), rfl, .inl ?_, ⟨_, rfl, by simp [hl], fun i hi => ?_⟩, _, _, _, rfl⟩
      · simp only [t_l_clocks_2]
        simp [-s_vItem, g1, g2, g3, MX.isL, MX.listOf, List.set_append_right]
      · have hp := pos_snoc (k := i) q
        unfold posP at hp ⊢
        rw [hp]
        by_cases e : i = k
        · subst e
          rw [List.getElem?_set_self (by omega)]
          simp
        · rw [List.getElem?_set_ne (fun z => e z.symm), if_neg (fun z => e z.symm), List.append_nil]
          exact hE i hi)
  subst h5
  rw [enumP_length, List.length_map, List.take_length] at h4
  refine ⟨E, ?_, h3, h4⟩
  have f1 : Fits L.length := fits_of (by have := hL.le; omega)
  simp only [m_l_clocks, t_l_clocks]
  unfold loP coP refsP at *
  simp [e0, f1, h1]
theorem marks_ok {d : List Step} {w : Str} {S : Sto} (hd : DeOk d) (hw : w ∈ words) : m_l_marks [deP d, .str w] S = .ok (.bl (decide ((true, w) ∈ d))) S := by
  have e2 := in_deP (s := (true, w)) (S := S) hw fun x hx => hd.w x hx
  simp only [stP, if_true] at e2
  simp only [m_l_marks, t_l_marks]
  simp [e2]
theorem looks_ok {d : List Step} {S : Sto} (hd : DeOk d) : m_l_looks [deP d] S = .ok (.lst ((lks d).map fun p => PV.int (p : Nat))) S := by
  have h5 := hd.le
  have e0 : lcL [some (deP d), none] (sgName 1) t_l_looks_1 t_l_looks_2 (rngP 0 d.length) S = .ok ((lks d).map fun p => PV.int (p : Nat)) S := by
    rw [rngP0]
    refine lcL_map (fun p : Nat => PV.int (p : Nat)) (fun p => PV.int (p : Nat)) (isLk d) (List.range d.length) fun p hp => ⟨_, rfl, ?_, fun _ => by simp [t_l_looks_2]⟩
    have hpd := List.mem_range.mp hp
    have hs := List.getElem?_eq_getElem hpd
    have f1 := it_de (S := S) hs
    have f2 : vItem (stP d[p]) (.int 0) S = some (.str (if d[p].1 = true then "mark" else "look"), S) := rfl
    have f3 : vEq (.str (if d[p].1 = true then "mark" else "look")) (.str "look") S = some (.bl (!d[p].1), S) := by
      cases d[p].1
      · exact (vEq_str (by decide +kernel) (by decide +kernel)).trans (by rw [decide_eq_true (by decide)]; rfl)
      · exact (vEq_str (by decide +kernel) (by decide +kernel)).trans (by rw [decide_eq_false (by decide)]; rfl)
    have f4 : isLk d p = !d[p].1 := by unfold isLk; rw [hs]
    simp only [t_l_looks_1]
    simp [-s_vItem, f1, f2, f3, f4]
  have e1 : siRange1 (sxN vLen (saCons (sxVar 0) saNil)) [some (deP d), none] S = .ok (.items (rngP 0 d.length)) S := rng1 (by simp [deP]) (by omega)
  have e2 := sxLc_fz (is := [1]) (t := sgName 1) (c := t_l_looks_1) (te := t_l_looks_2) e1 e0 (fits_of (by
    rw [List.length_map]
    have := cnt_le d d.length
    unfold lks; omega))
  simp only [m_l_looks, t_l_looks]
  simp [-s_sxLc, e2]
end K05

end

section
namespace K05
open PySem PySem.Spec PyProof.Rows L2 MX
def cj (L : List (List Step)) (c : List Nat) (k : Nat) (w : Str) (m j : Nat) : List Nat := (((L.zipIdx.take j).filter fun p => !decide (p.2 = k) && decide ((true, w) ∈ p.1)).map (·.2)).filter fun o => decide (lastN o c < m)
theorem cj_end {L : List (List Step)} {c : List Nat} {k : Nat} {w : Str} {m : Nat} : cj L c k w m L.length = cnd L c k w m := by
  unfold cj cnd mrk
  rw [List.take_of_length_le (by simp)]
theorem cj_snoc {L : List (List Step)} {c : List Nat} {k : Nat} {w : Str} {m j : Nat} {d : List Step} (h : L[j]? = some d) : cj L c k w m (j + 1) = cj L c k w m j ++ if j ≠ k ∧ (true, w) ∈ d ∧ lastN j c < m then [j] else [] := by
  have hz : L.zipIdx[j]? = some (d, j) := by rw [List.getElem?_zipIdx, h]; simp
  unfold cj
  rw [List.take_add_one, hz, List.filter_append, List.map_append, List.filter_append]
  congr 1
  by_cases h1 : j = k
  · simp [h1]
  · by_cases h2 : (true, w) ∈ d
    · by_cases h3 : lastN j c < m
      · simp [h1, h2, h3]
      · simp [h1, h2, h3]
    · simp [h1, h2]
theorem sight_loop {L : List (List Step)} {lv : List Str} {c : List Nat} {k p m b : Nat} {w : Str} {S : Sto} {z : Option PV} (hL : LoOk L) (h : CoOk L c) (hw : w ∈ words) (hS : Clk S b L.length c) :
    ∃ z', forL (sgName 8) t_l_sight_1 (rngP 0 L.length) [some (loP L), some (lvP lv), some (refsP b L.length), some (.int (k : Nat)), some (.int (p : Nat)), some (.int (m : Nat)), some (.str w), some .non, z] S =
      .nx [some (loP L), some (lvP lv), some (refsP b L.length), some (.int (k : Nat)), some (.int (p : Nat)), some (.int (m : Nat)), some (.str w), some (opP (sgt L c k w m)), z'] S := by
  obtain ⟨sp', S', h1, h2, z', h3⟩ := forL_inv0 (t := sgName 8) (b := t_l_sight_1)
    (fun j sp S' => S' = S ∧ ∃ z, sp = [some (loP L), some (lvP lv), some (refsP b L.length), some (.int (k : Nat)), some (.int (p : Nat)), some (.int (m : Nat)), some (.str w), some (opP ((cj L c k w m j).foldl (stp c) none)), z])
    (xs := rngP 0 L.length) (sp := [some (loP L), some (lvP lv), some (refsP b L.length), some (.int (k : Nat)), some (.int (p : Nat)), some (.int (m : Nat)), some (.str w), some .non, z]) (S := S) ⟨rfl, _, rfl⟩ (fun j x sp S' hx ⟨e1, z, e2⟩ => by
      subst e1 e2
      obtain ⟨hj, rfl⟩ := rngP_get hx
      rw [Int.zero_add]
      have hd := List.getElem?_eq_getElem hj
      have f1 := it_lo (S := S') hd
      have f2 := marks_ok (S := S') (hL.de _ (List.getElem_mem hj)) hw
      have f3 := it_refs (b := b) (S := S') hj
      have f4 := it_refl (S := S') (hS j hj) (posP_last (cnt_pos h hj))
      have hsn := cj_snoc (c := c) (k := k) (w := w) (m := m) hd
      have fold1 : ∀ o, o ∈ cj L c k w m j → o < L.length := fun o ho => by
        obtain ⟨ho, -⟩ := List.mem_filter.mp ho
        obtain ⟨q, hq, rfl⟩ := List.mem_map.mp ho
        have := List.mem_of_mem_take (List.mem_filter.mp hq).1
        obtain ⟨i, q1, q2⟩ := zipIdx_mem this
        have := (List.getElem?_eq_some_iff.mp q1).1
        omega
      refine ⟨_, [some (loP L), some (lvP lv), some (refsP b L.length), some (.int (k : Nat)), some (.int (p : Nat)), some (.int (m : Nat)), some (.str w), some (opP ((cj L c k w m (j + 1)).foldl (stp c) none)), some (.int (j : Nat))], S', rfl, .inl ?_, rfl, _, rfl⟩
      rw [hsn]
      by_cases c1 : j = k
      · have c1' : (((j : Nat) : Int) = (k : Nat)) = True := eq_true (by omega)
        simp only [t_l_sight_1]
        simp [-s_vItem, c1', c1]
      · have c1' : (((j : Nat) : Int) = (k : Nat)) = False := eq_false (by omega)
        by_cases c2 : (true, w) ∈ L[j]
        · rw [decide_eq_true c2] at f2
          by_cases c3 : lastN j c < m
          · rw [if_pos ⟨c1, c2, c3⟩, List.foldl_append]
            cases hb : (cj L c k w m j).foldl (stp c) none with
            | none =>
              simp only [t_l_sight_1]
              simp [-s_vItem, c1', f1, f2, f3, f4, c3, vNeg, opP, stp]
            | some o =>
              have ho : o < L.length := by
                cases hl : cj L c k w m j with
                | nil => rw [hl] at hb; cases hb
                | cons a l =>
                  rw [hl] at hb
                  obtain ⟨r, r1, r2, -⟩ := fold_some (c := c) l a
                  have : (a :: l).foldl (stp c) none = some r := r1
                  rw [this] at hb; cases hb
                  exact fold1 _ (by rw [hl]; exact r2)
              have g3 := it_refs (b := b) (S := S') ho
              have g4 := it_refl (S := S') (hS o ho) (posP_last (cnt_pos h ho))
              by_cases c4 : lastN o c < lastN j c
              · simp only [t_l_sight_1]
                simp [-s_vItem, c1', f1, f2, f3, f4, g3, g4, c3, c4, vNeg, opP, stp]
              · simp only [t_l_sight_1]
                simp [-s_vItem, c1', f1, f2, f3, f4, g3, g4, c3, c4, vNeg, opP, stp]
          · rw [if_neg (fun q => c3 q.2.2)]
            simp only [t_l_sight_1]
            simp [-s_vItem, c1', f1, f2, f3, f4, c3, vNeg]
        · rw [decide_eq_false c2] at f2
          rw [if_neg (fun q => c2 q.2.1)]
          simp only [t_l_sight_1]
          simp [-s_vItem, c1', f1, f2, f3, f4, vNeg])
  rw [rngP_length, cj_end] at h3
  refine ⟨z', ?_⟩
  rw [h1, h2, h3]; rfl
theorem sight_law_ok {L : List (List Step)} {lv : List Str} {c : List Nat} {k p b : Nat} {d : List Step} {s : Step} {S : Sto} (h : AllOk L lv c) (hS : Clk S b L.length c) (hd : L[k]? = some d) (hs : d[p]? = some s) :
    m_l_sight [loP L, lvP lv, refsP b L.length, .int (k : Nat), .int (p : Nat)] S = .ok (opP (sgt L c k (wrd d p) (mom c ((lv[k]?).getD "") k p))) S := by
  have hk : k < L.length := (List.getElem?_eq_some_iff.mp hd).1
  have hkl : k < lv.length := by rw [h.n]; exact hk
  have hp := (List.getElem?_eq_some_iff.mp hs).1
  have hx := List.getElem?_eq_getElem hkl
  have hxl := h.l _ (List.getElem_mem hkl)
  have hw : s.2 ∈ words := (h.lo.de d (List.mem_of_getElem? hd)).w s (List.mem_of_getElem? hs)
  have e1 : wrd d p = s.2 := by unfold wrd; rw [hs]; rfl
  have e2 : (lv[k]?).getD "" = lv[k] := by rw [hx]; rfl
  rw [e1, e2]
  have hm := mom_get (x := lv[k]) h.co hd hp
  have hlen : (pos k c).length = d.length + 1 := by rw [pos_length]; exact h.co.cnt k d hd
  have h0 : (posP k c)[0]? = some (.int ((pos k c)[0]'(by omega) : Nat)) := by unfold posP; rw [List.getElem?_map, List.getElem?_eq_getElem (by omega)]; rfl
  have hpp : (posP k c)[p]? = some (.int ((pos k c)[p]'(by omega) : Nat)) := by unfold posP; rw [List.getElem?_map, List.getElem?_eq_getElem (by omega)]; rfl
  have f1 := it_refs (b := b) (S := S) hk
  have f2 : vItem (.ref (b + k)) (.int 0) S = some (.int ((pos k c)[0]'(by omega) : Nat), S) := it_ref (i := 0) (hS k hk) h0
  have f3 := it_ref (S := S) (hS k hk) hpp
  have f4 := it_lo (S := S) hd
  have f5 := it_de (S := S) hs
  have f6 := it_st (s := s) (S := S)
  have f7 := it_lv (S := S) hx
  have f8 : vEq (.str lv[k]) (.str "late") S = some (.bl (decide (lv[k] = "late")), S) := vEq_str (lvl_ok (S := S) hxl).2 (by decide +kernel)
  have f9 : siRange1 (sxN vLen (saCons (sxVar 0) saNil)) [some (loP L), some (lvP lv), some (refsP b L.length), some (.int (k : Nat)), some (.int (p : Nat)), some (.int (mom c lv[k] k p : Nat)), some (.str s.2), some .non, none] S = .ok (.items (rngP 0 L.length)) S := rng1 (by simp [loP]) (by have := h.lo.le; omega)
  obtain ⟨z', e⟩ := sight_loop (lv := lv) (k := k) (p := p) (m := mom c lv[k] k p) (S := S) (z := none) h.lo h.co hw hS
  by_cases hl : lv[k] = "late"
  · rw [decide_eq_true hl] at f8
    rw [if_pos hl, List.getElem?_eq_getElem (by omega)] at hm
    rw [Option.some.inj hm] at f3
    simp only [m_l_sight, t_l_sight]
    simp [-s_vItem, -s_siRange1, f1, f2, f3, f4, f5, f6, f7, f8, f9, e]
  · rw [decide_eq_false hl] at f8
    rw [if_neg hl, List.getElem?_eq_getElem (by omega)] at hm
    rw [Option.some.inj hm] at f2
    simp only [m_l_sight, t_l_sight]
    simp [-s_vItem, -s_siRange1, f1, f2, f3, f4, f5, f6, f7, f8, f9, e]
end K05

end

section
namespace K05
open PySem PySem.Spec PyProof.Rows L2 MX
theorem lks_mem {d : List Step} {p : Nat} (h : p ∈ lks d) : p < d.length := List.mem_range.mp (List.mem_filter.mp h).1
theorem due_inner {L : List (List Step)} {lv : List Str} {c : List Nat} {k : Nat} {d : List Step} {acc : List PV} {a : Option PV} {S : Sto} {b : Nat} (h : AllOk L lv c) (hd : L[k]? = some d) (hacc : acc.length ≤ 1000) (hS : Clk S b L.length c) :
    ∃ a', forL (sgName 6) t_l_due_1 ((lks d).map fun p => PV.int (p : Nat)) [some (loP L), some (lvP lv), some (coP c), some (refsP b L.length), some (.ref S.length), some (.int (k : Nat)), a] (S ++ [.lst acc]) =
      .nx [some (loP L), some (lvP lv), some (coP c), some (refsP b L.length), some (.ref S.length), some (.int (k : Nat)), a'] (S ++ [.lst (acc ++ rowD L lv c (d, k))]) := by
  have hd5 := (h.lo.de d (List.mem_of_getElem? hd)).le
  have hl5 : (lks d).length ≤ 5 := Nat.le_trans (cnt_le d d.length) hd5
  obtain ⟨sp', S', h1, h2, a', h3⟩ := forL_inv0 (t := sgName 6) (b := t_l_due_1)
    (fun j sp S' => S' = S ++ [.lst (acc ++ ((lks d).take j).map (ent L lv c k d))] ∧ ∃ a, sp = [some (loP L), some (lvP lv), some (coP c), some (refsP b L.length), some (.ref S.length), some (.int (k : Nat)), a])
    (xs := (lks d).map fun p => PV.int (p : Nat)) (sp := [some (loP L), some (lvP lv), some (coP c), some (refsP b L.length), some (.ref S.length), some (.int (k : Nat)), a]) (S := S ++ [.lst acc]) ⟨by simp, _, rfl⟩ (fun j x sp S' hx ⟨e1, a, e2⟩ => by
      subst e1 e2
      obtain ⟨p, q, rfl⟩ := map_get hx
      have hj := (List.getElem?_eq_some_iff.mp q).1
      have hp := lks_mem (List.mem_of_getElem? q)
      have hS' : Clk (S ++ [SO.lst (acc ++ ((lks d).take j).map (ent L lv c k d))]) b L.length c := fun i hi => by
        have e := hS i hi
        rw [List.getElem?_append_left (List.getElem?_eq_some_iff.mp e).1]; exact e
      have f1 := sight_law_ok h hS' hd (List.getElem?_eq_getElem hp)
      have f2 : Fits (acc.length + min j (lks d).length + 1) := fits_of (by omega)
      have ht : (lks d).take (j + 1) = (lks d).take j ++ [p] := by rw [List.take_add_one, q]; rfl
      refine ⟨_, [some (loP L), some (lvP lv), some (coP c), some (refsP b L.length), some (.ref S.length), some (.int (k : Nat)), some (.int (p : Nat))], S ++ [SO.lst (acc ++ ((lks d).take (j + 1)).map (ent L lv c k d))], rfl, .inl ?_, rfl, _, rfl⟩
      rw [ht]
      simp only [t_l_due_1]
      simp [-List.length_append, -List.append_assoc, -List.map_take, f1, MX.isL, MX.listOf]
      simp [ent, f2])
  refine ⟨a', ?_⟩
  rw [h1, h2, h3, List.length_map, List.take_length]; rfl
theorem due_ok {L : List (List Step)} {lv : List Str} {c : List Nat} {S : Sto} (h : AllOk L lv c) : ∃ G, m_l_due [loP L, lvP lv, coP c] S = .ok (.tup (due L lv c)) (S ++ G) := by
  obtain ⟨E, e0, hE, hk⟩ := clocks_ok (S := S) h.lo h.co
  have hS : Clk (S ++ E) S.length L.length c := fun k hk' => by
    rw [List.getElem?_append_right (by omega), show S.length + k - S.length = k by omega]; exact hk k hk'
  obtain ⟨sp', S', h1, ⟨h2, h5⟩, a', b', h3⟩ := forL_inv0 (t := sgName 5) (b := t_l_due_2)
    (fun j sp S' => (S' = (S ++ E) ++ [.lst ((L.zipIdx.take j).flatMap (rowD L lv c))] ∧ ((L.zipIdx.take j).flatMap (rowD L lv c)).length ≤ 5 * j) ∧ ∃ a b, sp = [some (loP L), some (lvP lv), some (coP c), some (refsP S.length L.length), some (.ref (S ++ E).length), a, b])
    (xs := rngP 0 L.length) (sp := [some (loP L), some (lvP lv), some (coP c), some (refsP S.length L.length), some (.ref (S ++ E).length), none, none]) (S := (S ++ E) ++ [.lst []]) ⟨⟨by simp, by simp⟩, _, _, rfl⟩ (fun j x sp S' hx ⟨⟨e1, e00⟩, a, b, e2⟩ => by
      subst e1 e2
      obtain ⟨hj, rfl⟩ := rngP_get hx
      rw [Int.zero_add]
      have q := List.getElem?_eq_getElem hj
      have hL5 := h.lo.le
      have ht : (L.zipIdx.take (j + 1)).flatMap (rowD L lv c) = (L.zipIdx.take j).flatMap (rowD L lv c) ++ rowD L lv c (L[j], j) := by
        have : L.zipIdx[j]? = some (L[j], j) := by rw [List.getElem?_zipIdx, q]; simp
        rw [List.take_add_one, this]
        simp
      obtain ⟨a', hi⟩ := due_inner (k := j) (acc := (L.zipIdx.take j).flatMap (rowD L lv c)) (a := b) h q (by omega) hS
      have f1 := it_lo (S := (S ++ E) ++ [SO.lst ((L.zipIdx.take j).flatMap (rowD L lv c))]) q
      have f2 := looks_ok (S := (S ++ E) ++ [SO.lst ((L.zipIdx.take j).flatMap (rowD L lv c))]) (h.lo.de _ (List.getElem_mem hj))
      refine ⟨_, [some (loP L), some (lvP lv), some (coP c), some (refsP S.length L.length), some (.ref (S ++ E).length), some (.int (j : Nat)), a'], (S ++ E) ++ [.lst ((L.zipIdx.take (j + 1)).flatMap (rowD L lv c))], rfl, .inl ?_, ⟨rfl, ?_⟩, _, _, rfl⟩
      · rw [ht]
        simp only [t_l_due_2]
        simp [-List.append_assoc, -List.length_append, -s_vItem, f1, f2, hi]
      · rw [ht, List.length_append]
        have := row_len (L := L) (lv := lv) (c := c) (k := j) (h.lo.de _ (List.getElem_mem hj)).le
        omega)
  rw [rngP_length, List.take_of_length_le (by simp)] at h2
  subst h2 h3
  refine ⟨E ++ [.lst (due L lv c)], ?_⟩
  have f9 : siRange1 (sxN vLen (saCons (sxVar 0) saNil)) [some (loP L), some (lvP lv), some (coP c), some (refsP S.length L.length), some (.ref (S ++ E).length), none, none] (S ++ E ++ [.lst []]) = .ok (.items (rngP 0 L.length)) (S ++ E ++ [.lst []]) := rng1 (by simp [loP]) (by have := h.lo.le; omega)
  have e4 : (S ++ E ++ [SO.lst (L.zipIdx.flatMap (rowD L lv c))])[(S ++ E).length]? = some (.lst (L.zipIdx.flatMap (rowD L lv c))) := by simp
  simp only [m_l_due, t_l_due]
  simp [-List.append_assoc, -List.length_append, -s_siRange1, e0, f9, h1, e4, MX.listOf]
  exact ⟨rfl, List.append_assoc ..⟩
/-! the size of what is shown -/
theorem sm_opP {o : Option Nat} (h : ∀ x, o = some x → x < 1000) : sm (opP o) = true ∧ dp (opP o) = 0 ∧ wt (opP o) ≤ 20 := by
  cases o with
  | none => exact ⟨rfl, rfl, by decide⟩
  | some x =>
    have := h x rfl
    refine ⟨decide_eq_true (by simp only [Int.natAbs_natCast]; omega), rfl, Nat.le_refl _⟩
theorem sgt_lt {L : List (List Step)} {c : List Nat} {k : Nat} {w : Str} {m x : Nat} (h : sgt L c k w m = some x) : x < L.length := by
  unfold sgt at h
  cases hl : cnd L c k w m with
  | nil => rw [hl] at h; cases h
  | cons a l =>
    rw [hl] at h
    obtain ⟨r, r1, r2, -⟩ := fold_some (c := c) l a
    have e : (a :: l).foldl (stp c) none = some r := r1
    rw [e] at h; cases h
    exact mrk_lt (List.mem_filter.mp (by rw [← hl] at r2; exact r2)).1
theorem due_mem {L : List (List Step)} {lv : List Str} {c : List Nat} {v : PV} (h : AllOk L lv c) (hv : v ∈ due L lv c) : sm v = true ∧ dp v ≤ 1 ∧ wt v ≤ 100 := by
  obtain ⟨q, hq, hv⟩ := List.mem_flatMap.mp hv
  obtain ⟨p, hp, rfl⟩ := List.mem_map.mp hv
  obtain ⟨i, q1, q2⟩ := zipIdx_mem hq
  have hi := (List.getElem?_eq_some_iff.mp q1).1
  have hp' := lks_mem hp
  have hd5 := (h.lo.de q.1 (List.mem_of_getElem? q1)).le
  have hL5 := h.lo.le
  obtain ⟨a1, a2, a3⟩ := sm_opP (o := sgt L c q.2 (wrd q.1 p) (mom c ((lv[q.2]?).getD "") q.2 p)) fun x hx => by have := sgt_lt hx; omega
  refine ⟨?_, ?_, ?_⟩
  · simp only [ent, sm, sms, a1, Bool.and_true, Bool.and_eq_true, decide_eq_true_eq, Int.natAbs_natCast]
    exact ⟨by omega, by omega⟩
  · simp only [ent, dp, dps, a2]; decide
  · simp only [ent, wt, wts]; omega
theorem due_len {L : List (List Step)} {lv : List Str} {c : List Nat} (h : LoOk L) : (due L lv c).length ≤ 25 := by
  have : ∀ l : List (List Step × Nat), (∀ q ∈ l, q.1.length ≤ 5) → (l.flatMap (rowD L lv c)).length ≤ 5 * l.length := fun l => by
    induction l with
    | nil => intro _; exact Nat.le_refl _
    | cons q l ih =>
      intro hq
      have h1 := row_len (L := L) (lv := lv) (c := c) (k := q.2) (hq q (List.mem_cons_self ..))
      have h2 := ih fun x hx => hq x (List.mem_cons_of_mem _ hx)
      simp only [List.flatMap_cons, List.length_append, List.length_cons]
      have h1' : (rowD L lv c q).length ≤ 5 := h1
      omega
  have h2 := this L.zipIdx fun q hq => by
    obtain ⟨i, q1, q2⟩ := zipIdx_mem hq
    exact (h.de q.1 (List.mem_of_getElem? q1)).le
  have := h.le
  rw [List.length_zipIdx] at h2
  unfold due
  omega
theorem due_sm {L : List (List Step)} {lv : List Str} {c : List Nat} (h : AllOk L lv c) : sm (.tup (due L lv c)) = true ∧ dp (.tup (due L lv c)) ≤ 2 ∧ wt (.tup (due L lv c)) ≤ 2600 := by
  have e : due L lv c = (due L lv c).map id := (List.map_id _).symm
  refine ⟨?_, ?_, ?_⟩
  · simp only [sm]; exact sms_all.mpr fun v hv => (due_mem h hv).1
  · simp only [dp]; rw [e]; have := dps_map (f := id) (n := 1) (l := due L lv c) fun v hv => (due_mem h hv).2.1; omega
  · simp only [wt]; rw [e]; have := wts_map (f := id) (n := 100) (l := due L lv c) fun v hv => (due_mem h hv).2.2; have := due_len (lv := lv) (c := c) h.lo; omega
end K05

end

section
namespace K05
open PySem PySem.Spec PyProof.Rows L2 MX
theorem eqS_self (x : Str) (S : Sto) : vEqS (.str x) (.str x) S = some (.bl true, S) := by simp [vEqS]
theorem stP_wt {s : Step} (h : s.2 ∈ words) : wt (stP s) ≤ 90 := by
  have h2 := (word_ok h).2
  obtain ⟨b, w⟩ := s
  have h3 : w.length ≤ 3 := h2
  have e1 : (Str.ofString "mark").length = 4 := rfl
  have e2 : (Str.ofString "look").length = 4 := rfl
  cases b <;> simp only [stP, wt, wts, if_true, Bool.false_eq_true, if_false] <;> omega
theorem deP_sm {d : List Step} (h : DeOk d) : sm (deP d) = true ∧ dp (deP d) ≤ 2 ∧ wt (deP d) ≤ 500 := by
  refine ⟨?_, ?_, ?_⟩
  · simp only [deP, sm]; exact sms_map fun s hs => sm_stP (h.w s hs)
  · simp only [deP, dp]; have := dps_map (f := stP) (n := 1) (l := d) fun a _ => Nat.le_of_eq (dp_stP a); omega
  · simp only [deP, wt]; have := wts_map (f := stP) (n := 90) (l := d) fun a ha => stP_wt (h.w a ha); have := h.le; omega
theorem loP_sm {L : List (List Step)} (h : LoOk L) : sm (loP L) = true ∧ dp (loP L) ≤ 3 ∧ wt (loP L) ≤ 3000 := by
  refine ⟨?_, ?_, ?_⟩
  · simp only [loP, sm]; exact sms_map fun s hs => (deP_sm (h.de s hs)).1
  · simp only [loP, dp]; have := dps_map (f := deP) (n := 2) (l := L) fun a ha => (deP_sm (h.de a ha)).2.1; omega
  · simp only [loP, wt]; have := wts_map (f := deP) (n := 500) (l := L) fun a ha => (deP_sm (h.de a ha)).2.2; have := h.le; omega
theorem lvl_len {x : Str} (h : x ∈ lvls) : x.length ≤ 7 := by
  simp only [lvls, List.mem_cons, List.not_mem_nil, or_false] at h
  rcases h with rfl | rfl | rfl <;> decide +kernel
theorem lvP_sm {lv : List Str} (h : ∀ x ∈ lv, x ∈ lvls) (hl : lv.length ≤ 5) : sm (lvP lv) = true ∧ dp (lvP lv) ≤ 1 ∧ wt (lvP lv) ≤ 1000 := by
  refine ⟨?_, ?_, ?_⟩
  · simp only [lvP, sm]; exact sms_map fun s hs => by simpa only [sm] using (lvl_ok (S := []) (h s hs)).2
  · simp only [lvP, dp]; have := dps_map (f := PV.str) (n := 0) (l := lv) fun a ha => Nat.le_refl _; omega
  · simp only [lvP, wt]; have := wts_map (f := PV.str) (n := 80) (l := lv) fun a ha => by have := lvl_len (h a ha); simp only [wt]; omega
    omega
theorem coP_sm {L : List (List Step)} {c : List Nat} (hL : LoOk L) (h : CoOk L c) : sm (coP c) = true ∧ dp (coP c) ≤ 1 ∧ wt (coP c) ≤ 1000 := by
  have hc := length_of_ok hL h
  have h5 := hL.le
  refine ⟨?_, ?_, ?_⟩
  · simp only [coP, sm]; exact sms_map fun s hs => decide_eq_true (by have := h.lt s hs; simp only [Int.natAbs_natCast]; omega)
  · simp only [coP, dp]; have := dps_map (f := fun k : Nat => PV.int (k : Nat)) (n := 0) (l := c) fun a ha => Nat.le_refl _; omega
  · simp only [coP, wt]; have := wts_map (f := fun k : Nat => PV.int (k : Nat)) (n := 20) (l := c) fun a ha => Nat.le_refl _
    omega
theorem repr_of {v : PV} {S : Sto} (h : sm v = true ∧ dp v ≤ 64 ∧ wt v ≤ 1000000) : vRepr [v] S = some (.str (dt v).shown, S) := vRepr_sm h.1 h.2.1 (Nat.le_trans h.2.2 (by decide))
theorem right_ok {L : List (List Step)} {lv : List Str} {c : List Nat} {S : Sto} (h : AllOk L lv c) : ∃ G, m_l_right [loP L, lvP lv, coP c] S = .ok (.bl true) (S ++ G) := by
  obtain ⟨G1, e1⟩ := due_ok (S := S) h
  obtain ⟨G2, e2⟩ := seen_ok (S := S ++ G1) h
  obtain ⟨G3, e3⟩ := seen_ok (S := S ++ G1 ++ G2) h
  have a := loP_sm h.lo
  have b := lvP_sm h.l (by rw [h.n]; exact h.lo.le)
  have d := coP_sm h.lo h.co
  have u := due_sm h
  have r1 : ∀ S, vRepr [.lst [loP L, lvP lv, coP c]] S = some (.str (dt (.lst [loP L, lvP lv, coP c])).shown, S) := fun S => repr_of ⟨by simp [sm, sms, a.1, b.1, d.1], by simp only [dp, dps]; omega, by simp only [wt, wts]; omega⟩
  have r2 : ∀ S, vRepr [.lst [.tup (due L lv c), .tup (due L lv c)]] S = some (.str (dt (.lst [.tup (due L lv c), .tup (due L lv c)])).shown, S) := fun S => repr_of ⟨by simp [sms, u.1, sm]; simpa only [sm] using u.1, by simp only [dp, dps] at u ⊢; omega, by simp only [wt, wts] at u ⊢; omega⟩
  refine ⟨G1 ++ G2 ++ G3, ?_⟩
  simp only [m_l_right, t_l_right]
  simp [-List.append_assoc, r1, r2, e1, e2, e3, eqS_self]
  simp [List.append_assoc]
theorem mul_ok {t : Str} {n : Nat} {S : Sto} (h1 : 1 ≤ n) (h5 : n ≤ 5) : vMulT (.tup [.str t]) (.int (n : Nat)) S = some (lvP (List.replicate n t), S) := by
  match n, h1, h5 with
  | 1, _, _ => rfl
  | 2, _, _ => rfl
  | 3, _, _ => rfl
  | 4, _, _ => rfl
  | 5, _, _ => rfl
theorem due_same {L : List (List Step)} {c : List Nat} {x y : Str} (hx : x ≠ "late") (hy : y ≠ "late") : due L (List.replicate L.length x) c = due L (List.replicate L.length y) c := by
  unfold due
  rw [List.flatMap_def, List.flatMap_def]
  congr 1
  refine List.map_congr_left fun q hq => ?_
  obtain ⟨i, q1, q2⟩ := zipIdx_mem hq
  have hi := (List.getElem?_eq_some_iff.mp q1).1
  unfold rowD
  refine List.map_congr_left fun p _ => ?_
  unfold ent mom
  have hq2 : q.2 < L.length := by omega
  rw [List.getElem?_replicate, List.getElem?_replicate, if_pos hq2, if_pos hq2]
  simp only [Option.getD_some, if_neg hx, if_neg hy]
theorem rep_ok {L : List (List Step)} {c : List Nat} {x : Str} (hL : LoOk L) (h : CoOk L c) (hx : x ∈ lvls) : AllOk L (List.replicate L.length x) c :=
  ⟨hL, by simp, fun y hy => by rw [(List.mem_replicate.mp hy).2]; exact hx, h⟩
theorem alike_1 {L : List (List Step)} {c : List Nat} {x : Str} {S : Sto} {z : Option PV} (hL : LoOk L) (h : CoOk L c) (hx : x ∈ lvls) : ∃ G, t_l_alike_right_1 [some (loP L), some (coP c), z, some (.str x)] S = .ok (.tup (due L (List.replicate L.length x) c)) (S ++ G) := by
  obtain ⟨G, e⟩ := seen_ok (S := S) (rep_ok hL h hx)
  have f := mul_ok (t := x) (S := S) (n := L.length) (List.length_pos_iff.mpr hL.ne) hL.le
  refine ⟨G, ?_⟩
  simp only [t_l_alike_right_1]
  unfold loP at *
  simp [f, e]
theorem alike_2 {L : List (List Step)} {c : List Nat} {x : Str} {S : Sto} {z : Option PV} (hL : LoOk L) (h : CoOk L c) (hx : x ∈ lvls) : ∃ G, t_l_alike_right_2 [some (loP L), some (coP c), z, some (.str x)] S = .ok (.tup (due L (List.replicate L.length x) c)) (S ++ G) := by
  obtain ⟨G, e⟩ := due_ok (S := S) (rep_ok hL h hx)
  have f := mul_ok (t := x) (S := S) (n := L.length) (List.length_pos_iff.mpr hL.ne) hL.le
  refine ⟨G, ?_⟩
  simp only [t_l_alike_right_2]
  unfold loP at *
  simp [f, e]
/-- three turns of a comprehension -/
theorem lc3 {sp : Sl} {i : Nat} {te : Sx} {a b c x y z : PV} {S S1 S2 S3 : Sto} (h1 : te (sp.set i (some a)) S = .ok x S1) (h2 : te (sp.set i (some b)) S1 = .ok y S2) (h3 : te (sp.set i (some c)) S2 = .ok z S3) : lcL sp (sgName i) stYes te [a, b, c] S = .ok [x, y, z] S3 := by
  simp [lcL, h1, h2, h3]
theorem alike_ok {L : List (List Step)} {c : List Nat} {S : Sto} (hL : LoOk L) (h : CoOk L c) : ∃ G, m_l_alike_right [loP L, coP c] S = .ok (.bl true) (S ++ G) := by
  have l1 : ("late" : Str) ∈ lvls := by simp [lvls]
  have l2 : ("early" : Str) ∈ lvls := by simp [lvls]
  have l3 : ("guarded" : Str) ∈ lvls := by simp [lvls]
  obtain ⟨G1, e1⟩ := alike_1 (S := S) (z := none) hL h l1
  obtain ⟨G2, e2⟩ := alike_1 (S := S ++ G1) (z := none) hL h l2
  obtain ⟨G3, e3⟩ := alike_1 (S := S ++ G1 ++ G2) (z := none) hL h l3
  have q1 := lc3 (sp := [some (loP L), some (coP c), none, none]) (i := 3) e1 e2 e3
  have hz := due_same (L := L) (c := c) (x := "early") (y := "guarded") (by decide) (by decide)
  obtain ⟨T, hT⟩ : ∃ T, T = PV.lst [.tup (due L (List.replicate L.length "late") c), .tup (due L (List.replicate L.length "early") c), .tup (due L (List.replicate L.length "guarded") c)] := ⟨_, rfl⟩
  obtain ⟨K1, k1⟩ := alike_2 (S := S ++ G1 ++ G2 ++ G3) (z := some T) hL h l1
  obtain ⟨K2, k2⟩ := alike_2 (S := S ++ G1 ++ G2 ++ G3 ++ K1) (z := some T) hL h l2
  obtain ⟨K3, k3⟩ := alike_2 (S := S ++ G1 ++ G2 ++ G3 ++ K1 ++ K2) (z := some T) hL h l3
  have q2 := lc3 (sp := [some (loP L), some (coP c), some T, none]) (i := 3) k1 k2 k3
  have u1 := due_sm (rep_ok hL h l1)
  have u2 := due_sm (rep_ok hL h l2)
  have u3 := due_sm (rep_ok hL h l3)
  have n1 : ∀ S, vNe (.tup (due L (List.replicate L.length "early") c)) (.tup (due L (List.replicate L.length "guarded") c)) S = some (.bl false, S) := fun S => by
    rw [hz]; exact vNe_self u3.1 (by omega)
  have r1 : ∀ S, vRepr [T] S = some (.str (dt T).shown, S) := fun S => by
    subst hT
    exact repr_of ⟨by simp only [sms, sm, Bool.and_true, Bool.and_eq_true] at u1 u2 u3 ⊢; exact ⟨u1.1, u2.1, u3.1⟩, by simp only [dp, dps] at u1 u2 u3 ⊢; omega, by simp only [wt, wts] at u1 u2 u3 ⊢; omega⟩
  have i1 : ∀ S, vItem T (.int 1) S = some (.tup (due L (List.replicate L.length "early") c), S) := fun S => by subst hT; rfl
  have i2 : ∀ S, vItem T (.int 2) S = some (.tup (due L (List.replicate L.length "guarded") c), S) := fun S => by subst hT; rfl
  refine ⟨G1 ++ G2 ++ G3 ++ K1 ++ K2 ++ K3, ?_⟩
  have s1 : (sxLc fzL (siSeq (sxN vTup (saCons (sxC (.str "late")) (saCons (sxC (.str "early")) (saCons (sxC (.str "guarded")) saNil))))) [3] (sgName 3) stYes t_l_alike_right_1) [some (loP L), some (coP c), none, none] S = .ok T (S ++ G1 ++ G2 ++ G3) := by
    rw [hT]
    exact sxLc_fz (is := [3]) (xs := [.str "late", .str "early", .str "guarded"]) (S1 := S) (by simp) q1 (fits_of (by simp))
  have s2 : (sxLc fzL (siSeq (sxN vTup (saCons (sxC (.str "late")) (saCons (sxC (.str "early")) (saCons (sxC (.str "guarded")) saNil))))) [3] (sgName 3) stYes t_l_alike_right_2) [some (loP L), some (coP c), some T, none] (S ++ G1 ++ G2 ++ G3) = .ok T (S ++ G1 ++ G2 ++ G3 ++ K1 ++ K2 ++ K3) := by
    have := sxLc_fz (is := [3]) (sp := [some (loP L), some (coP c), some T, none]) (ti := siSeq (sxN vTup (saCons (sxC (.str "late")) (saCons (sxC (.str "early")) (saCons (sxC (.str "guarded")) saNil))))) (xs := [.str "late", .str "early", .str "guarded"]) (S := S ++ G1 ++ G2 ++ G3) (S1 := S ++ G1 ++ G2 ++ G3) (by simp) q2 (fits_of (by simp))
    rw [this, hT]
  simp only [m_l_alike_right, t_l_alike_right]
  simp [-List.append_assoc, -s_sxLc, -s_vItem, s1, s2, i1, i2, n1, r1, eqS_self]
  simp [List.append_assoc]
end K05

end

section
namespace K05
open PySem PySem.Spec PyProof.Rows L2 MX
/-! the draws -/
def mach (l sd : Int) (cs : List Int) (sp : Int) : SO := .dct [(.inr "left", .int l), (.inr "seed", .int sd), (.inr "cells", .lst (cs.map .int)), (.inr "spot", .int sp)]
theorem mulI {a b : Int} {S : Sto} (h : (-(2 ^ 64) < a ∧ a < 2 ^ 64) ∨ (-(2 ^ 64) < b ∧ b < 2 ^ 64)) : vMulT (.int a) (.int b) S = some (.int (a * b), S) := by
  unfold vMulT vMul
  exact if_pos h
theorem modI {a b : Int} {S : Sto} (h : 0 < b) : vMod (.int a) (.int b) S = some (.int (a.fmod b), S) := if_pos (by omega)
theorem divI {a b : Int} {S : Sto} (h : 0 < b) (h2 : b < 1000000000) : vFDiv (.int a) (.int b) S = some (.int (a.fdiv b), S) := if_pos ⟨by omega, by omega⟩
theorem addI {a b : Int} {S : Sto} : vAdd (.int a) (.int b) S = some (.int (a + b), S) := rfl
theorem fmod_in {a b : Int} (h : 0 < b) : 0 ≤ a.fmod b ∧ a.fmod b < b := ⟨Int.fmod_nonneg_of_pos _ h, Int.fmod_lt_of_pos _ h⟩
section
variable {S : Sto} {i : Nat} {l sd sp : Int} {cs : List Int}
theorem d_left (h : S[i]? = some (mach l sd cs sp)) : vDItem (.ref i) (.str "left") S = some (.int l, S) := by unfold vDItem; simp only [h, mach]; rfl
theorem d_seed (h : S[i]? = some (mach l sd cs sp)) : vDItem (.ref i) (.str "seed") S = some (.int sd, S) := by unfold vDItem; simp only [h, mach]; rfl
theorem d_cells (h : S[i]? = some (mach l sd cs sp)) : vDItem (.ref i) (.str "cells") S = some (.lst (cs.map .int), S) := by unfold vDItem; simp only [h, mach]; rfl
theorem d_spot (h : S[i]? = some (mach l sd cs sp)) : vDItem (.ref i) (.str "spot") S = some (.int sp, S) := by unfold vDItem; simp only [h, mach]; rfl
theorem p_left {x : Int} (h : S[i]? = some (mach l sd cs sp)) : vSet (.ref i) (.str "left") (.int x) S = some (S.set i (mach x sd cs sp)) := by unfold vSet; simp only [h, mach]; rfl
theorem p_spot {x : Int} (h : S[i]? = some (mach l sd cs sp)) : vSet (.ref i) (.str "spot") (.int x) S = some (S.set i (mach l sd cs x)) := by unfold vSet; simp only [h, mach]; rfl
end
theorem draw_ok {S : Sto} {i : Nat} {l sd sp many : Int} {cs : List Int} (h : S[i]? = some (mach l sd cs sp)) (hc : cs ≠ []) (h0 : 0 ≤ sp) (h1 : sp < 1000000000) (m0 : 0 < many) (m1 : many < 1000000) :
    ∃ d l' sp', m_l_draw [.ref i, .int many] S = .ok (.int d) (S.set i (mach l' sd cs sp')) ∧ 0 ≤ d ∧ d < many ∧ sp ≤ sp' ∧ sp' ≤ sp + 1 := by
  have hi := (List.getElem?_eq_some_iff.mp h).1
  by_cases hl : 0 < l
  · refine ⟨l.fmod many, l.fdiv many, sp, ?_, (fmod_in m0).1, (fmod_in m0).2, by omega, by omega⟩
    have f1 := d_left h
    have f2 := modI (a := l) (S := S) m0
    have f3 := divI (a := l) (S := S) m0 (by omega)
    have f4 := p_left (x := l.fdiv many) h
    simp only [m_l_draw, t_l_draw]
    simp [f1, f2, f3, f4, hl]
  · have hS1 : (S.set i (mach l sd cs (sp + 1)))[i]? = some (mach l sd cs (sp + 1)) := List.getElem?_set_self hi
    obtain ⟨S1, e1⟩ : ∃ S1, S1 = S.set i (mach l sd cs (sp + 1)) := ⟨_, rfl⟩
    rw [← e1] at hS1
    have hlen : 0 < cs.length := List.length_pos_iff.mpr hc
    obtain ⟨j, ej⟩ : ∃ j, j = sp.fmod (cs.length : Nat) := ⟨_, rfl⟩
    have hj := fmod_in (a := sp) (b := (cs.length : Nat)) (by omega)
    rw [← ej] at hj
    have hjn : j.toNat < cs.length := by omega
    have f1 := d_left h
    have f2 := d_spot h
    have f3 := p_spot (x := sp + 1) h
    rw [← e1] at f3
    have g1 := d_cells hS1
    have g2 := d_seed hS1
    have a1 := mulI (a := 40503) (b := sp) (S := S1) (.inl ⟨by omega, by omega⟩)
    have a2 := mulI (a := 40503 * sp) (b := sp) (S := S1) (.inr ⟨by omega, by omega⟩)
    have b1 : vMod (.int sp) (.int (cs.length : Nat)) S1 = some (.int j, S1) := by rw [ej]; exact modI (by omega)
    have b2 : vItem (.lst (cs.map PV.int)) (.int j) S1 = some (.int cs[j.toNat], S1) := by
      have q := it_lst (xs := cs.map PV.int) (i := j.toNat) (x := PV.int cs[j.toNat]) (S := S1) (by rw [List.getElem?_map, List.getElem?_eq_getElem hjn]; rfl)
      rw [show ((j.toNat : Nat) : Int) = j by omega] at q
      exact q
    obtain ⟨x, ex⟩ : ∃ x, x = cs[j.toNat] := ⟨_, rfl⟩
    rw [← ex] at b2
    have c1 := mulI (a := 2) (b := sp) (S := S1) (.inl ⟨by omega, by omega⟩)
    have c2 := mulI (a := x) (b := 2 * sp + 3) (S := S1) (.inr ⟨by omega, by omega⟩)
    obtain ⟨y, ey⟩ : ∃ y, y = (x * (2 * sp + 3) + (sd + 40503 * sp * sp)).fmod 2147483647 := ⟨_, rfl⟩
    have c3 : vMod (.int (x * (2 * sp + 3) + (sd + 40503 * sp * sp))) (.int 2147483647) S1 = some (.int y, S1) := by rw [ey]; exact modI (by omega)
    have hy : 0 ≤ y ∧ y < 2147483647 := by rw [ey]; exact fmod_in (by omega)
    have d1 := mulI (a := y) (b := y) (S := S1) (.inr ⟨by omega, by omega⟩)
    have d2 := mulI (a := 69621) (b := sp) (S := S1) (.inl ⟨by omega, by omega⟩)
    obtain ⟨z, ez⟩ : ∃ z, z = (y * y + 69621 * sp + sd).fmod 2147483629 := ⟨_, rfl⟩
    have d3 : vMod (.int (y * y + 69621 * sp + sd)) (.int 2147483629) S1 = some (.int z, S1) := by rw [ez]; exact modI (by omega)
    have n1 := mulI (a := z) (b := 48271) (S := S1) (.inr ⟨by omega, by omega⟩)
    have n2 := modI (a := z * 48271 + sp) (b := 2147483647) (S := S1) (by omega)
    have n3 := divI (a := (z * 48271 + sp).fmod 2147483647) (b := 11) (S := S1) (by omega) (by omega)
    have n4 := modI (a := ((z * 48271 + sp).fmod 2147483647).fdiv 11) (b := many) (S := S1) m0
    refine ⟨(((z * 48271 + sp).fmod 2147483647).fdiv 11).fmod many, l, sp + 1, ?_, (fmod_in m0).1, (fmod_in m0).2, by omega, by omega⟩
    rw [← e1]
    simp only [m_l_draw, t_l_draw]
    simp [-s_vItem, f1, f2, f3, hl, g1, g2, a1, a2, b1, b2, c1, c2, c3, d1, d2, d3, n1, n2, n3, n4, addI]
/-- the machine stands at i, at most n draws were drawn -/
def Ma (i : Nat) (n : Int) (S : Sto) : Prop := ∃ l sd cs sp, S[i]? = some (mach l sd cs sp) ∧ cs ≠ [] ∧ 0 ≤ sp ∧ sp ≤ n
/-- but for the machine, all stands -/
structure Ch (i : Nat) (S S' : Sto) : Prop where
  le : S.length ≤ S'.length
  eq : ∀ j, j < S.length → j ≠ i → S'[j]? = S[j]?
theorem Ch.refl {i : Nat} {S : Sto} : Ch i S S := ⟨Nat.le_refl _, fun _ _ _ => rfl⟩
theorem Ch.trans {i : Nat} {S S1 S2 : Sto} (a : Ch i S S1) (b : Ch i S1 S2) : Ch i S S2 := ⟨Nat.le_trans a.le b.le, fun j h1 h2 => (b.eq j (Nat.lt_of_lt_of_le h1 a.le) h2).trans (a.eq j h1 h2)⟩
theorem Ma.mono {i : Nat} {n m : Int} {S : Sto} (h : Ma i n S) (k : n ≤ m) : Ma i m S := by
  obtain ⟨l, sd, cs, sp, a, b, c, d⟩ := h
  exact ⟨l, sd, cs, sp, a, b, c, by omega⟩
theorem Ma.lt {i : Nat} {n : Int} {S : Sto} (h : Ma i n S) : i < S.length := by
  obtain ⟨l, sd, cs, sp, a, b, c, d⟩ := h
  exact (List.getElem?_eq_some_iff.mp a).1
theorem Ma.app {i : Nat} {n : Int} {S G : Sto} (h : Ma i n S) : Ma i n (S ++ G) := by
  have hl := h.lt
  obtain ⟨l, sd, cs, sp, a, b, c, d⟩ := h
  exact ⟨l, sd, cs, sp, by rw [List.getElem?_append_left hl]; exact a, b, c, d⟩
theorem Ch.app {i : Nat} {S G : Sto} : Ch i S (S ++ G) := ⟨by simp, fun j h _ => List.getElem?_append_left h⟩
theorem draw {S : Sto} {i : Nat} {n many : Int} (h : Ma i n S) (hn : n < 999999999) (m0 : 0 < many) (m1 : many < 1000000) :
    ∃ (d : Nat) (S' : Sto), m_l_draw [.ref i, .int many] S = .ok (.int (d : Nat)) S' ∧ (d : Int) < many ∧ Ma i (n + 1) S' ∧ Ch i S S' ∧ S'.length = S.length := by
  have hi := h.lt
  obtain ⟨l, sd, cs, sp, a, b, c, d⟩ := h
  obtain ⟨x, l', sp', e, x0, x1, s0, s1⟩ := draw_ok a b c (by omega) m0 m1
  refine ⟨x.toNat, _, ?_, by omega, ⟨l', sd, cs, sp', List.getElem?_set_self hi, b, by omega, by omega⟩, ⟨by simp, fun j _ hj => List.getElem?_set_ne (fun z => hj z.symm)⟩, by simp⟩
  rw [e, show ((x.toNat : Nat) : Int) = x by omega]
theorem of_ok {S : Sto} {i : Nat} {n : Int} {xs : List PV} (h : Ma i n S) (hn : n < 999999999) (h0 : 0 < xs.length) (h1 : xs.length < 1000) :
    ∃ (x : PV) (S' : Sto), m_l_of [.ref i, .lst xs] S = .ok x S' ∧ x ∈ xs ∧ Ma i (n + 1) S' ∧ Ch i S S' ∧ S'.length = S.length := by
  obtain ⟨d, S', e, d1, a, b, c⟩ := draw h hn (many := (xs.length : Nat)) (by omega) (by omega)
  have hd : d < xs.length := by omega
  refine ⟨xs[d], S', ?_, List.getElem_mem hd, a, b, c⟩
  have f := it_lst (S := S') (List.getElem?_eq_getElem hd)
  simp only [m_l_of, t_l_of]
  simp [-s_vItem, e, f]
structure DeOk0 (d : List Step) : Prop where
  w : ∀ x ∈ d, x.2 ∈ words
  f : ∀ j s, d[j]? = some s → s ∉ d.take j ∧ (s.1 = true ∨ (true, s.2) ∉ d.take j)
theorem DeOk0.snoc {d : List Step} {s : Step} (h : DeOk0 d) (hw : s.2 ∈ words) (h1 : s ∉ d) (h2 : s.1 = true ∨ (true, s.2) ∉ d) : DeOk0 (d ++ [s]) := by
  refine ⟨fun x hx => ?_, fun j t ht => ?_⟩
  · rcases List.mem_append.mp hx with hx | hx
    · exact h.w x hx
    · rw [List.mem_singleton.mp hx]; exact hw
  · by_cases hj : j < d.length
    · rw [List.getElem?_append_left hj] at ht
      rw [List.take_append_of_le_length (by omega)]
      exact h.f j t ht
    · have : j = d.length := by
        have := (List.getElem?_eq_some_iff.mp ht).1
        simp at this; omega
      subst this
      simp at ht
      subst ht
      rw [show List.take d.length (d ++ [s]) = d by simp]
      exact ⟨h1, h2⟩
theorem notin_ref {s : Step} {f : List Step} {r : Nat} {S : Sto} (hr : S[r]? = some (.lst (f.map stP))) (h : s.2 ∈ words) (hf : ∀ x ∈ f, x.2 ∈ words) : vNotIn (stP s) (.ref r) S = some (.bl (!decide (s ∈ f)), S) := by
  have e := in_deP (S := S) h hf
  have hs : sms (f.map stP) = true := sms_map fun a ha => sm_stP (hf a ha)
  have k := sms_ok (f.map stP) hs
  have hd := dps_map (f := stP) (n := 1) (l := f) fun a _ => Nat.le_of_eq (dp_stP a)
  have d1 := dOf_sm (S := S) (sm_stP h)
  have sh1 := shaped_sm (sm_stP h) (by rw [dp_stP]; decide)
  have sh2 : SeqAt.shaped (.list (dts (f.map stP))) = true := shaped_sm (v := .lst (f.map stP)) (by simpa only [sm] using hs) (by simp only [dp]; omega)
  have d2 : dOf S (.ref r) = some (.list (dts (f.map stP))) := by
    unfold dOf
    simp only [hr, k.1]; rfl
  have e1 : inAns S (stP s) (.ref r) = some ((dts (f.map stP)).any fun z => PyData.eqv z (dt (stP s))) := by
    unfold inAns
    split
    · rename_i q; cases q
    · rw [d1, d2]
      exact if_pos ⟨sh1, sh2⟩
  have e2 : (dts (f.map stP)).any (fun z => PyData.eqv z (dt (stP s))) = decide (s ∈ f) := by
    rw [dts_map, List.map_map, List.any_map, Bool.eq_iff_iff, List.any_eq_true]
    simp only [Function.comp, eqv_stP, decide_eq_true_eq]
    exact ⟨fun ⟨x, hx, e⟩ => e ▸ hx, fun hx => ⟨s, hx, rfl⟩⟩
  unfold vNotIn
  rw [e1, e2]; rfl
end K05

end

section
namespace K05
open PySem PySem.Spec PyProof.Rows L2 MX
def wsP (ws : List Str) : PV := .lst (ws.map PV.str)
theorem Ma.at {i : Nat} {n : Int} {S S' : Sto} (h : Ma i n S) (e : S'[i]? = S[i]?) : Ma i n S' := by
  obtain ⟨l, sd, cs, sp, a, b, c, d⟩ := h
  exact ⟨l, sd, cs, sp, by rw [e]; exact a, b, c, d⟩
theorem deed_turn {S : Sto} {i r : Nat} {n : Int} {ws : List Str} {f : List Step} {p2 : PV} {a b : Option PV} (h : Ma i n S) (hn : n < 999999000) (hw : ∀ w ∈ ws, w ∈ words) (h0 : 0 < ws.length) (h1 : ws.length < 1000)
    (hr : S[r]? = some (.lst (f.map stP))) (hri : r ≠ i) (hf : DeOk0 f) (hfl : f.length ≤ 5) :
    ∃ (f' : List Step) (S' : Sto) (b' : Option PV), t_l_deed_1 [some (.ref i), some (wsP ws), some p2, some (.ref r), a, b] S = .nx [some (.ref i), some (wsP ws), some p2, some (.ref r), a, b'] S' ∧ S'[r]? = some (.lst (f'.map stP)) ∧ DeOk0 f' ∧ f'.length ≤ f.length + 1 ∧ f' ≠ [] ∧ Ma i (n + 2) S' ∧ S'.length = S.length ∧
      ∀ j, j < S.length → j ≠ i → j ≠ r → S'[j]? = S[j]? := by
  obtain ⟨d, S1, e1, d1, m1, c1, l1⟩ := draw h (by omega) (many := 2) (by omega) (by omega)
  obtain ⟨x, S2, e2, hx, m2, c2, l2⟩ := of_ok (xs := ws.map PV.str) m1 (by omega) (by simpa using h0) (by simpa using h1)
  obtain ⟨w, hwm, rfl⟩ := List.mem_map.mp hx
  have hww := hw w hwm
  have hrl := (List.getElem?_eq_some_iff.mp hr).1
  have hr2 : S2[r]? = some (.lst (f.map stP)) := by rw [c2.eq r (by omega) hri, c1.eq r hrl hri]; exact hr
  obtain ⟨s, hs⟩ : ∃ s : Step, s = (decide (d = 1), w) := ⟨_, rfl⟩
  have hsw : s.2 ∈ words := by rw [hs]; exact hww
  have i1 : vItem (.lst [.str "look", .str "mark"]) (.int (d : Nat)) S1 = some (.str (if s.1 = true then "mark" else "look"), S1) := by
    have : d = 0 ∨ d = 1 := by omega
    rcases this with rfl | rfl <;> rw [hs] <;> rfl
  have st : (PV.tup [.str (if s.1 = true then "mark" else "look"), .str w]) = stP s := by rw [hs]; rfl
  have n1 := notin_ref hr2 hsw hf.w
  have n2 := notin_ref (s := (true, w)) hr2 hww hf.w
  have i2 : vItem (stP s) (.int 0) S2 = some (.str (if s.1 = true then "mark" else "look"), S2) := rfl
  have i3 : vItem (stP s) (.int 1) S2 = some (.str w, S2) := by rw [hs]; rfl
  have q1 : vEq (.str (if s.1 = true then "mark" else "look")) (.str "mark") S2 = some (.bl s.1, S2) := by
    cases s.1
    · exact (vEq_str (by decide +kernel) (by decide +kernel)).trans (by rw [decide_eq_false (by decide)])
    · exact (vEq_str (by decide +kernel) (by decide +kernel)).trans (by rw [decide_eq_true (by decide)])
  have st2 : (PV.tup [.str "mark", .str w]) = stP (true, w) := rfl
  have l3 : f.length + 1 < 100000 := by omega
  have fi : Fits (f.length + 1) := fits_of (by omega)
  -- taken
  have yes : s ∉ f → (s.1 = true ∨ (true, w) ∉ f) → t_l_deed_1 [some (.ref i), some (wsP ws), some p2, some (.ref r), a, b] S = .nx [some (.ref i), some (wsP ws), some p2, some (.ref r), a, some (stP s)] (S2.set r (.lst (f.map stP ++ [stP s]))) := fun g1 g2 => by
    rw [decide_eq_false g1] at n1
    simp only [t_l_deed_1]
    unfold wsP
    cases hb : s.1 with
    | true =>
      rw [hb] at i1 i2 q1 st
      simp only [if_true] at i1 i2 q1 st
      simp [-s_vItem, e1, e2, i1, st, n1, i2, i3, q1, hr2, fi, MX.isL, MX.listOf]
    | false =>
      rw [hb] at i1 i2 q1 st g2
      simp only [if_false, Bool.false_eq_true] at i1 i2 q1 st
      have g3 : (true, w) ∉ f := by simpa using g2
      rw [decide_eq_false g3] at n2
      simp [-s_vItem, e1, e2, i1, st, st2, n1, n2, i2, i3, q1, hr2, fi, MX.isL, MX.listOf]
  have no : ¬ (s ∉ f ∧ (s.1 = true ∨ (true, w) ∉ f)) → t_l_deed_1 [some (.ref i), some (wsP ws), some p2, some (.ref r), a, b] S = .nx [some (.ref i), some (wsP ws), some p2, some (.ref r), a, some (stP s)] S2 := fun g => by
    simp only [t_l_deed_1]
    unfold wsP
    by_cases g1 : s ∈ f
    · rw [decide_eq_true g1] at n1
      cases hb : s.1 with
      | true =>
        rw [hb] at i1 st
        simp only [if_true] at i1 st
        simp [-s_vItem, e1, e2, i1, st, n1]
      | false =>
        rw [hb] at i1 st
        simp only [if_false, Bool.false_eq_true] at i1 st
        simp [-s_vItem, e1, e2, i1, st, n1]
    · have hb : s.1 = false := by
        cases hb : s.1 with
        | false => rfl
        | true => exact absurd ⟨g1, .inl hb⟩ g
      have g3 : (true, w) ∈ f := by
        by_cases q : (true, w) ∈ f
        · exact q
        · exact absurd ⟨g1, .inr q⟩ g
      rw [decide_eq_false g1] at n1
      rw [decide_eq_true g3] at n2
      rw [hb] at i1 i2 q1 st
      simp only [if_false, Bool.false_eq_true] at i1 i2 q1 st
      simp [-s_vItem, e1, e2, i1, st, st2, n1, n2, i2, i3, q1]
  by_cases g : s ∉ f ∧ (s.1 = true ∨ (true, w) ∉ f)
  · refine ⟨f ++ [s], _, _, yes g.1 g.2, ?_, hf.snoc hsw g.1 (by rw [hs] at g ⊢; exact g.2), by simp, by simp, ?_, by simp; omega, fun j h1 h2 h3 => ?_⟩
    · rw [List.getElem?_set_self (by omega)]; simp
    · have := m2.at (S' := S2.set r (.lst (f.map stP ++ [stP s]))) (List.getElem?_set_ne hri)
      exact this.mono (by omega)
    · rw [List.getElem?_set_ne (fun z => h3 z.symm), c2.eq j (by omega) h2, c1.eq j h1 h2]
  · refine ⟨f, S2, _, no g, hr2, hf, by omega, ?_, m2.mono (by omega), by omega, fun j h1 h2 h3 => by rw [c2.eq j (by omega) h2, c1.eq j h1 h2]⟩
    intro hz
    subst hz
    exact g ⟨by simp, .inr (by simp)⟩
end K05

end

section
namespace K05
open PySem PySem.Spec PyProof.Rows L2 MX
theorem deed_ok {S : Sto} {i : Nat} {n : Int} {ws : List Str} (h : Ma i n S) (hn : n < 999990000) (hw : ∀ w ∈ ws, w ∈ words) (h0 : 0 < ws.length) (h1 : ws.length < 1000) :
    ∃ (d : List Step) (S' : Sto), m_l_deed [.ref i, wsP ws, .int 5] S = .ok (deP d) S' ∧ DeOk d ∧ Ma i (n + 11) S' ∧ Ch i S S' := by
  have hi := h.lt
  obtain ⟨z, S1, e1, z1, m1, c1, l1⟩ := draw (h.app (G := [.lst []])) (by omega) (many := 5) (by omega) (by omega)
  obtain ⟨sp', S', q1, ⟨f, g1, g2, g3, g4, g5, g6, g7⟩, a', b', q3⟩ := forL_inv0 (t := sgName 4) (b := t_l_deed_1)
    (fun j sp S' => (∃ f : List Step, S'[S.length]? = some (.lst (f.map stP)) ∧ DeOk0 f ∧ f.length ≤ j ∧ (1 ≤ j → f ≠ []) ∧ (j ≤ 5 → Ma i (n + 1 + 2 * j) S') ∧ S'.length = S.length + 1 ∧ ∀ x, x < S.length → x ≠ i → S'[x]? = S[x]?) ∧ ∃ a b, sp = [some (.ref i), some (wsP ws), some (.int 5), some (.ref S.length), a, b])
    (xs := rngP 0 (1 + z)) (sp := [some (.ref i), some (wsP ws), some (.int 5), some (.ref S.length), none, none]) (S := S1) ⟨⟨[], by rw [c1.eq S.length (by simp) (by omega)]; simp, ⟨by simp, by simp⟩, by simp, by simp, fun _ => m1.mono (by omega), by rw [l1]; simp, fun x hx hxi => by rw [c1.eq x (by simp; omega) hxi, List.getElem?_append_left hx]⟩, _, _, rfl⟩ (fun j x sp S' hx ⟨⟨f, g1, g2, g3, g4, g5, g6, g7⟩, a, b, e2⟩ => by
      subst e2
      obtain ⟨hj, rfl⟩ := rngP_get hx
      have hj5 : j < 5 := by omega
      obtain ⟨f', S2, b', t1, t2, t3, t4, t5, t6, t7, t8⟩ := deed_turn (a := some (.int (0 + (j : Nat)))) (b := b) (p2 := .int 5) (g5 (by omega)) (by omega) hw h0 h1 g1 (by omega) g2 (by omega)
      refine ⟨_, _, S2, rfl, .inl t1, ⟨f', t2, t3, by omega, fun _ => t5, fun _ => t6.mono (by omega), by omega, fun x h1 h2 => ?_⟩, _, _, rfl⟩
      rw [t8 x (by omega) h2 (by omega), g7 x h1 h2])
  rw [rngP_length] at g3 g4 g5
  have hne := g4 (by omega)
  subst q3
  have hz5 : 1 + z ≤ 5 := by omega
  refine ⟨f, S', ?_, ⟨hne, by omega, g2.w, g2.f⟩, (g5 hz5).mono (by omega), ⟨by omega, g7⟩⟩
  have r1 : siRange1 (sx2 vAdd (sxC (.int 1)) (sxCall 2 m_l_draw (saCons (sxVar 0) (saCons (sxVar 2) saNil)))) [some (.ref i), some (wsP ws), some (.int 5), some (.ref S.length), none, none] (S ++ [.lst []]) = .ok (.items (rngP 0 (1 + z))) S1 := rng1 (n := 1 + z) (by simp [e1, addI]) (by omega)
  simp only [m_l_deed, t_l_deed, deP]
  simp [-s_siRange1, r1, q1, g1, MX.listOf]
theorem deeds_of : ∀ {ys : List PV}, (∀ (j : Nat) y, ys[j]? = some y → ∃ d, DeOk d ∧ y = deP d) → ∃ L : List (List Step), ys = L.map deP ∧ ∀ d ∈ L, DeOk d
  | [], _ => ⟨[], rfl, by simp⟩
  | y :: ys, h => by
    obtain ⟨d, h1, rfl⟩ := h 0 y rfl
    obtain ⟨L, h2, h3⟩ := deeds_of (ys := ys) fun j z hz => h (j + 1) z (by simpa using hz)
    subst h2
    exact ⟨d :: L, rfl, fun x hx => by
      rcases List.mem_cons.mp hx with rfl | hx
      · exact h1
      · exact h3 x hx⟩
def wss : List (List Str) := [["a"], ["a", "b"], ["a", "b", "c"], ["a", "ab", "b"], ["xy", "xyz"], ["a", "b", "c", "d"]]
theorem wss_ok {ws : List Str} (h : ws ∈ wss) : (∀ w ∈ ws, w ∈ words) ∧ 0 < ws.length ∧ ws.length < 1000 := by
  simp only [wss, List.mem_cons, List.not_mem_nil, or_false] at h
  rcases h with rfl | rfl | rfl | rfl | rfl | rfl <;> exact ⟨by decide +kernel, by decide, by decide⟩
theorem crew_ok {S : Sto} {i : Nat} {n : Int} (h : Ma i n S) (hn : n < 999000000) : ∃ (L : List (List Step)) (S' : Sto), m_l_crew [.ref i, .int 5, .int 5] S = .ok (loP L) S' ∧ LoOk L ∧ Ma i (n + 100) S' ∧ Ch i S S' := by
  obtain ⟨x, S1, e1, hx, m1, c1, l1⟩ := of_ok (xs := wss.map wsP) h (by omega) (by decide) (by decide)
  obtain ⟨ws, hws, rfl⟩ := List.mem_map.mp hx
  obtain ⟨w1, w2, w3⟩ := wss_ok hws
  obtain ⟨z, S2, e2, z1, m2, c2, l2⟩ := draw m1 (by omega) (many := 5) (by omega) (by omega)
  obtain ⟨ys, S3, q1, ⟨q2, q3⟩, q4, q5⟩ := lcL_inv0 (sp := [some (.ref i), some (.int 5), some (.int 5), some (wsP ws), none]) (t := sgName 4) (te := t_l_crew_1)
    (fun j S' => (j ≤ 5 → Ma i (n + 2 + 11 * j) S') ∧ Ch i S2 S') (fun _ y => ∃ d, DeOk d ∧ y = deP d) (xs := rngP 0 (1 + z)) (S := S2) ⟨fun _ => m2.mono (by omega), .refl⟩ (fun j x S' hx ⟨a, b⟩ => by
      obtain ⟨hj, rfl⟩ := rngP_get hx
      obtain ⟨d, S'', t1, t2, t3, t4⟩ := deed_ok (a (by omega)) (by omega) w1 w2 w3
      refine ⟨_, deP d, S'', rfl, ?_, ⟨d, t2, rfl⟩, fun _ => t3.mono (by omega), b.trans t4⟩
      simp only [t_l_crew_1]
      simp [t1])
  obtain ⟨L, rfl, hL⟩ := deeds_of q5
  rw [rngP_length] at q2 q4
  rw [List.length_map] at q4
  refine ⟨L, S3, ?_, ⟨fun z => by rw [z] at q4; simp at q4; omega, by omega, hL⟩, (q2 (by omega)).mono (by omega), (c1.trans c2).trans q3⟩
  have r1 : siRange1 (sx2 vAdd (sxC (.int 1)) (sxCall 2 m_l_draw (saCons (sxVar 0) (saCons (sxVar 1) saNil)))) [some (.ref i), some (.int 5), some (.int 5), some (wsP ws), none] S1 = .ok (.items (rngP 0 (1 + z))) S2 := rng1 (n := 1 + z) (by simp [e2, addI]) (by omega)
  have r2 := sxLc_fz (is := [4]) (t := sgName 4) (c := stYes) (te := t_l_crew_1) r1 q1 (fits_of (by rw [List.length_map]; omega))
  have e1' : m_l_of [.ref i, .lst [.lst [.str "a"], .lst [.str "a", .str "b"], .lst [.str "a", .str "b", .str "c"], .lst [.str "a", .str "ab", .str "b"], .lst [.str "xy", .str "xyz"], .lst [.str "a", .str "b", .str "c", .str "d"]]] S = .ok (wsP ws) S1 := e1
  simp only [m_l_crew, t_l_crew, loP]
  simp [-s_sxLc, e1', r2]
theorem lvls_of : ∀ {ys : List PV}, (∀ (j : Nat) y, ys[j]? = some y → ∃ x, x ∈ lvls ∧ y = .str x) → ∃ lv : List Str, ys = lv.map .str ∧ ∀ x ∈ lv, x ∈ lvls
  | [], _ => ⟨[], rfl, by simp⟩
  | y :: ys, h => by
    obtain ⟨d, h1, rfl⟩ := h 0 y rfl
    obtain ⟨L, h2, h3⟩ := lvls_of (ys := ys) fun j z hz => h (j + 1) z (by simpa using hz)
    subst h2
    exact ⟨d :: L, rfl, fun x hx => by
      rcases List.mem_cons.mp hx with rfl | hx
      · exact h1
      · exact h3 x hx⟩
theorem tiers_ok {S : Sto} {i : Nat} {n : Int} {L : List (List Step)} (hL : LoOk L) (h : Ma i n S) (hn : n < 999000000) : ∃ (lv : List Str) (S' : Sto), m_l_tiers [.ref i, loP L] S = .ok (lvP lv) S' ∧ lv.length = L.length ∧ (∀ x ∈ lv, x ∈ lvls) ∧ Ma i (n + 5) S' ∧ Ch i S S' := by
  obtain ⟨ys, S3, q1, ⟨q2, q3⟩, q4, q5⟩ := lcL_inv0 (sp := [some (.ref i), some (loP L), none]) (t := sgName 2) (te := t_l_tiers_1)
    (fun j S' => (j ≤ 5 → Ma i (n + j) S') ∧ Ch i S S') (fun _ y => ∃ x, x ∈ lvls ∧ y = .str x) (xs := L.map deP) (S := S) ⟨fun _ => h.mono (by omega), .refl⟩ (fun j x S' hx ⟨a, b⟩ => by
      have hj := (List.getElem?_eq_some_iff.mp hx).1
      rw [List.length_map] at hj
      have h5 := hL.le
      obtain ⟨z, S2, e2, z1, m2, c2, l2⟩ := draw (a (by omega)) (by omega) (many := 3) (by omega) (by omega)
      have hz : z < 3 := by omega
      refine ⟨_, .str (lvls[z]'hz), S2, rfl, ?_, ⟨_, List.getElem_mem hz, rfl⟩, fun _ => m2.mono (by omega), b.trans c2⟩
      have f : vItem (.lst [.str "late", .str "early", .str "guarded"]) (.int (z : Nat)) S2 = some (.str (lvls[z]'hz), S2) := by
        have : z = 0 ∨ z = 1 ∨ z = 2 := by omega
        rcases this with rfl | rfl | rfl <;> rfl
      simp only [t_l_tiers_1]
      simp [-s_vItem, e2, f])
  obtain ⟨lv, rfl, hlv⟩ := lvls_of q5
  rw [List.length_map] at q2
  rw [List.length_map, List.length_map] at q4
  refine ⟨lv, S3, ?_, q4, hlv, (q2 hL.le).mono (by have := hL.le; omega), q3⟩
  have r2 := sxLc_fz (is := [2]) (t := sgName 2) (c := stYes) (te := t_l_tiers_1) (ti := siSeq (sxVar 1)) (sp := [some (.ref i), some (loP L), none]) (S := S) (S1 := S) (by unfold loP; simp) q1 (fits_of (by rw [List.length_map]; have := hL.le; omega))
  simp only [m_l_tiers, t_l_tiers, lvP]
  simp [-s_sxLc, r2]
end K05

end

section
namespace K05
open PySem PySem.Spec PyProof.Rows L2 MX
def inP (l : List Nat) : List PV := l.map fun k => PV.int (k : Nat)
theorem set_sum : ∀ {l : List Nat} {k v : Nat}, l[k]? = some (v + 1) → (l.set k v).sum + 1 = l.sum
  | [], _, _, h => by simp at h
  | a :: l, 0, v, h => by simp at h; subst h; simp; omega
  | a :: l, k + 1, v, h => by
    have := set_sum (l := l) (k := k) (v := v) (by simpa using h)
    simp only [List.set_cons_succ, List.sum_cons]; omega
theorem sum_pos : ∀ {l : List Nat}, 0 < l.sum → ∃ (k v : Nat), l[k]? = some (v + 1)
  | [], h => by simp at h
  | 0 :: l, h => by
    obtain ⟨k, v, e⟩ := sum_pos (l := l) (by simpa using h)
    exact ⟨k + 1, v, by simpa using e⟩
  | (a + 1) :: l, _ => ⟨0, a, rfl⟩
theorem sum_zero : ∀ {l : List Nat}, l.sum = 0 → ∀ (k v : Nat), l[k]? = some v → v = 0
  | [], _, _, _, e => by simp at e
  | a :: l, h, 0, v, e => by simp at e h; omega
  | a :: l, h, k + 1, v, e => sum_zero (l := l) (by simp at h; omega) k v (by simpa using e)
structure CI (L : List (List Step)) (i r : Nat) (n : Int) (S0 : Sto) (lf c : List Nat) (S : Sto) : Prop where
  left : S[r]? = some (.lst (inP lf))
  found : S[r + 1]? = some (.lst (inP c))
  ll : lf.length = L.length
  lt : ∀ k ∈ c, k < L.length
  cnt : ∀ k d, L[k]? = some d → ∃ v, lf[k]? = some v ∧ v + c.count k = d.length + 1
  sum : c.length + lf.sum = (L.map fun d => d.length + 1).sum
  ma : Ma i (n + 2 * c.length) S
  len : S.length = r + 2
  eq : ∀ x, x < r → x ≠ i → S[x]? = S0[x]?
theorem ne_nil {r : Nat} {c : List Nat} {S : Sto} (h : S[r]? = some (.lst (inP c))) (hc : ∀ k ∈ c, k < 1000) : vNe (.ref r) (.lst []) S = some (.bl (!c.isEmpty), S) := by
  have hs : sms (inP c) = true := sms_map fun a ha => decide_eq_true (by have := hc a ha; simp only [Int.natAbs_natCast]; omega)
  have k := sms_ok (inP c) hs
  have hd := dps_map (f := fun k : Nat => PV.int (k : Nat)) (n := 0) (l := c) fun a _ => Nat.le_refl _
  have d2 : dOf S (.ref r) = some (.list (dts (inP c))) := by
    unfold dOf
    simp only [h, k.1]; rfl
  have sh2 : SeqAt.shaped (.list (dts (inP c))) = true := shaped_sm (v := .lst (inP c)) (by simpa only [sm] using hs) (by simp only [dp, inP]; omega)
  have d1 : dOf S (.lst []) = some (.list []) := rfl
  unfold vNe
  rw [d2, d1]
  show (if _ ∧ _ then _ else _) = _
  rw [if_pos ⟨sh2, rfl⟩]
  congr 3
  cases c <;> rfl
theorem total_le {L : List (List Step)} (h : LoOk L) : (L.map fun d => d.length + 1).sum ≤ 30 := by
  have h1 : ∀ l : List (List Step), (∀ d ∈ l, d.length ≤ 5) → (l.map fun d => d.length + 1).sum ≤ 6 * l.length := fun l => by
    induction l with
    | nil => intro _; exact Nat.le_refl _
    | cons a l ih =>
      intro hl
      have := hl a (List.mem_cons_self ..)
      have := ih fun x hx => hl x (List.mem_cons_of_mem _ hx)
      simp only [List.map_cons, List.sum_cons, List.length_cons]
      omega
  have := h1 L fun d hd => (h.de d hd).le
  have := h.le
  omega
def gtz (lf : List Nat) (k : Nat) : Bool := decide (0 < (lf[k]?).getD 0)
theorem course_turn {L : List (List Step)} {i r : Nat} {n : Int} {S0 S : Sto} {lf c : List Nat} {a b d : Option PV} (hL : LoOk L) (h : CI L i r n S0 lf c S) (hn : n < 999000000) (hir : i < r) (hp : 0 < lf.sum) :
    ∃ (lf' c' : List Nat) (S' : Sto) (a' b' : Option PV), t_l_course_5 [some (.ref i), some (loP L), some (.ref r), some (.ref (r + 1)), a, b, d] S = .nx [some (.ref i), some (loP L), some (.ref r), some (.ref (r + 1)), a', b', d] S' ∧ CI L i r n S0 lf' c' S' ∧ lf'.sum + 1 = lf.sum := by
  have h5 := hL.le
  have ht := total_le hL
  have hcl : c.length ≤ 30 := by have := h.sum; omega
  -- those that are left
  have e0 : ∀ a, lcL [some (.ref i), some (loP L), some (.ref r), some (.ref (r + 1)), a, none, d] (sgName 5) t_l_course_2 t_l_course_3 (rngP 0 L.length) S = .ok (inP ((List.range L.length).filter (gtz lf))) S := fun a => by
    rw [rngP0]
    refine lcL_map (fun p : Nat => PV.int (p : Nat)) (fun p => PV.int (p : Nat)) (gtz lf) (List.range L.length) fun p hp => ⟨_, rfl, ?_, fun _ => by simp [t_l_course_3]⟩
    have hpl : p < lf.length := by rw [h.ll]; exact List.mem_range.mp hp
    have f : vItem (.ref r) (.int (p : Nat)) S = some (.int (lf[p] : Nat), S) := it_ref h.left (by unfold inP; rw [List.getElem?_map, List.getElem?_eq_getElem hpl]; rfl)
    have g : gtz lf p = decide (0 < lf[p]) := by unfold gtz; rw [List.getElem?_eq_getElem hpl]; rfl
    have g2 : decide ((0 : Int) < (lf[p] : Nat)) = decide (0 < lf[p]) := decide_eq_decide.mpr (by omega)
    simp only [t_l_course_2]
    simp [-s_vItem, f, g]
  have r1 : ∀ a b, siRange1 (sxN vLen (saCons (sxVar 1) saNil)) [some (.ref i), some (loP L), some (.ref r), some (.ref (r + 1)), a, b, d] S = .ok (.items (rngP 0 L.length)) S := fun a b => rng1 (by simp [loP]) (by omega)
  have r2 := sxLc_fz (is := [5]) (t := sgName 5) (c := t_l_course_2) (te := t_l_course_3) (r1 a b) (e0 a) (fits_of (by
    unfold inP
    rw [List.length_map]
    exact Nat.le_trans (List.length_filter_le _ _) (by rw [List.length_range]; omega)))
  obtain ⟨sm', hsm⟩ : ∃ l, l = (List.range L.length).filter (gtz lf) := ⟨_, rfl⟩
  rw [← hsm] at r2
  have hsl : sm'.length ≤ 5 := by rw [hsm]; exact Nat.le_trans (List.length_filter_le _ _) (by rw [List.length_range]; omega)
  have hin : ∀ k ∈ sm', k < L.length ∧ ∃ v, lf[k]? = some (v + 1) := fun k hk => by
    rw [hsm] at hk
    obtain ⟨k1, k2⟩ := List.mem_filter.mp hk
    have hk := List.mem_range.mp k1
    have hpl : k < lf.length := by rw [h.ll]; exact hk
    unfold gtz at k2
    rw [List.getElem?_eq_getElem hpl] at k2 ⊢
    have : 0 < lf[k] := of_decide_eq_true k2
    exact ⟨hk, lf[k] - 1, by congr 1; omega⟩
  have hs0 : 0 < sm'.length := by
    obtain ⟨k, v, e⟩ := sum_pos hp
    have hk : k < L.length := by rw [← h.ll]; exact (List.getElem?_eq_some_iff.mp e).1
    have : k ∈ sm' := by
      rw [hsm]
      refine List.mem_filter.mpr ⟨List.mem_range.mpr hk, ?_⟩
      unfold gtz; rw [e]; exact decide_eq_true (Nat.succ_pos _)
    exact List.length_pos_of_mem this
  obtain ⟨z, S1, d1, d2, d3, d4, d5⟩ := draw h.ma (by omega) (many := (sm'.length : Nat)) (by omega) (by omega)
  have hz : z < sm'.length := by omega
  have f1 : vItem (.lst (inP sm')) (.int (z : Nat)) S1 = some (.int (sm'[z] : Nat), S1) := it_lst (by unfold inP; rw [List.getElem?_map, List.getElem?_eq_getElem hz]; rfl)
  obtain ⟨k1, v1, k2⟩ := hin _ (List.getElem_mem hz)
  have lr : S1[r]? = some (.lst (inP lf)) := by rw [d4.eq r (by have := h.len; omega) (by omega)]; exact h.left
  have fr : S1[r + 1]? = some (.lst (inP c)) := by rw [d4.eq (r + 1) (by have := h.len; omega) (by omega)]; exact h.found
  have e1 := ne_nil fr fun k hk => by have := h.lt k hk; omega
  -- the last step: k taken at S2
  have fin : ∀ (k v : Nat) (S2 : Sto), k < L.length → lf[k]? = some (v + 1) → S2[r]? = some (.lst (inP lf)) → S2[r + 1]? = some (.lst (inP c)) → Ma i (n + 2 * c.length + 2) S2 → S2.length = r + 2 → (∀ x, x < r → x ≠ i → S2[x]? = S0[x]?) →
      ∃ S3, (ssSeq (ssSub (sxVar 2) (sxVar 5) (sx2 vSub (sx2 vItem (sxVar 2) (sxVar 5)) (sxC (.int 1)))) (ssExpr (sxMt MX.isL vAppend (sxVar 3) (saCons (sxVar 5) saNil)))) [some (.ref i), some (loP L), some (.ref r), some (.ref (r + 1)), some (.lst (inP sm')), some (.int (k : Nat)), d] S2 =
        .nx [some (.ref i), some (loP L), some (.ref r), some (.ref (r + 1)), some (.lst (inP sm')), some (.int (k : Nat)), d] S3 ∧ CI L i r n S0 (lf.set k v) (c ++ [k]) S3 := fun k v S2 hk hv l2 f2 m2 len2 eq2 => by
    have g1 : vItem (.ref r) (.int (k : Nat)) S2 = some (.int ((v + 1 : Nat) : Nat), S2) := it_ref l2 (by unfold inP; rw [List.getElem?_map, hv]; rfl)
    have hx : ixN (inP lf).length (k : Int) = some k := ixN_nat (by unfold inP; rw [List.length_map, h.ll]; exact hk)
    have g2 : vSet (.ref r) (.int (k : Nat)) (.int (v : Nat)) S2 = some (S2.set r (.lst (inP (lf.set k v)))) := by
      unfold vSet
      simp only [l2, hx, Option.map_some]
      unfold inP
      rw [List.map_set]
    have g3 : (S2.set r (.lst (inP (lf.set k v))))[r + 1]? = some (.lst (inP c)) := by rw [List.getElem?_set_ne (by omega)]; exact f2
    have g4 : Fits ((inP c).length + 1) := fits_of (by unfold inP; rw [List.length_map]; omega)
    have g5 : ((v + 1 : Nat) : Int) - 1 = (v : Nat) := by omega
    refine ⟨(S2.set r (.lst (inP (lf.set k v)))).set (r + 1) (.lst (inP (c ++ [k]))), ?_, ⟨?_, ?_, by simp [h.ll], ?_, fun x dd hx => ?_, ?_, ?_, by simp [len2], fun x hx hxi => ?_⟩⟩
    · have e : inP (c ++ [k]) = inP c ++ [.int (k : Nat)] := by simp [inP]
      rw [e]
      have g1' : vItem (.ref r) (.int (k : Nat)) S2 = some (.int ((v : Int) + 1), S2) := g1
      simp [-s_vItem, g1', g2, g3, g4, MX.isL, MX.listOf]
    · rw [List.getElem?_set_ne (by omega), List.getElem?_set_self (by omega)]
    · rw [List.getElem?_set_self (by simp; omega)]
    · intro x hx
      rcases List.mem_append.mp hx with hx | hx
      · exact h.lt x hx
      · rw [List.mem_singleton.mp hx]; exact hk
    · obtain ⟨w, w1, w2⟩ := h.cnt x dd hx
      rw [List.count_append, List.count_singleton]
      by_cases hxk : x = k
      · subst hxk
        rw [hv] at w1; cases w1
        exact ⟨v, List.getElem?_set_self (by rw [h.ll]; exact hk), by simp; omega⟩
      · exact ⟨w, by rw [List.getElem?_set_ne (fun z => hxk z.symm)]; exact w1, by rw [if_neg (by simp; exact fun z => hxk z.symm)]; omega⟩
    · have := set_sum hv
      have := h.sum
      simp only [List.length_append, List.length_singleton]; omega
    · have := m2.at (S' := (S2.set r (.lst (inP (lf.set k v)))).set (r + 1) (.lst (inP (c ++ [k])))) (by rw [List.getElem?_set_ne (by omega), List.getElem?_set_ne (by omega)])
      exact this.mono (by simp only [List.length_append, List.length_singleton]; omega)
    · rw [List.getElem?_set_ne (by omega), List.getElem?_set_ne (by omega)]; exact eq2 x hx hxi
  have A : (ssSet 4 (sxLc fzL (siRange1 (sxN vLen (saCons (sxVar 1) saNil))) [5] (sgName 5) t_l_course_2 t_l_course_3)) [some (.ref i), some (loP L), some (.ref r), some (.ref (r + 1)), a, b, d] S = .nx [some (.ref i), some (loP L), some (.ref r), some (.ref (r + 1)), some (.lst (inP sm')), b, d] S := by
    rw [s_ssSet, r2]; rfl
  have B : (ssSet 5 (sx2 vItem (sxVar 4) (sxCall 2 m_l_draw (saCons (sxVar 0) (saCons (sxN vLen (saCons (sxVar 4) saNil)) saNil))))) [some (.ref i), some (loP L), some (.ref r), some (.ref (r + 1)), some (.lst (inP sm')), b, d] S = .nx [some (.ref i), some (loP L), some (.ref r), some (.ref (r + 1)), some (.lst (inP sm')), some (.int (sm'[z] : Nat)), d] S1 := by
    have hl : (inP sm').length = sm'.length := by simp [inP]
    simp [-s_vItem, hl, d1, f1]
  have go : ∀ (k v : Nat) (S2 : Sto), (ssIf (stAnd (stB (sx2 vNe (sxVar 3) (sxN vLst saNil))) (stAnd (stB (sx2 vGt (sx2 vItem (sxVar 2) (sx2 vItem (sxVar 3) (sx1 vNeg (sxC (.int 1))))) (sxC (.int 0)))) (stB (sx2 vEq (sxCall 2 m_l_draw (saCons (sxVar 0) (saCons (sxC (.int 2)) saNil))) (sxC (.int 0)))))) (ssSet 5 (sx2 vItem (sxVar 3) (sx1 vNeg (sxC (.int 1))))) ssNil) [some (.ref i), some (loP L), some (.ref r), some (.ref (r + 1)), some (.lst (inP sm')), some (.int (sm'[z] : Nat)), d] S1 =
        .nx [some (.ref i), some (loP L), some (.ref r), some (.ref (r + 1)), some (.lst (inP sm')), some (.int (k : Nat)), d] S2 → k < L.length → lf[k]? = some (v + 1) → S2[r]? = some (.lst (inP lf)) → S2[r + 1]? = some (.lst (inP c)) → Ma i (n + 2 * c.length + 2) S2 → S2.length = r + 2 → (∀ x, x < r → x ≠ i → S2[x]? = S0[x]?) →
      ∃ (lf' c' : List Nat) (S' : Sto) (a' b' : Option PV), t_l_course_5 [some (.ref i), some (loP L), some (.ref r), some (.ref (r + 1)), a, b, d] S = .nx [some (.ref i), some (loP L), some (.ref r), some (.ref (r + 1)), a', b', d] S' ∧ CI L i r n S0 lf' c' S' ∧ lf'.sum + 1 = lf.sum := fun k v S2 hC hk hv l2 f2 m2 len2 eq2 => by
    obtain ⟨S3, D, hI⟩ := fin k v S2 hk hv l2 f2 m2 len2 eq2
    refine ⟨lf.set k v, c ++ [k], S3, some (.lst (inP sm')), some (.int (k : Nat)), ?_, hI, set_sum hv⟩
    unfold t_l_course_5
    rw [s_ssSeq, A]
    show ssSeq _ _ _ _ = _
    rw [s_ssSeq, B]
    show ssSeq _ _ _ _ = _
    rw [s_ssSeq, hC]
    exact D
  have eq1 : ∀ x, x < r → x ≠ i → S1[x]? = S0[x]? := fun x hx hxi => by rw [d4.eq x (by have := h.len; omega) hxi]; exact h.eq x hx hxi
  have len1 : S1.length = r + 2 := by rw [d5]; exact h.len
  cases hc : c with
  | nil =>
    have e1' := e1
    rw [hc] at e1'
    exact go sm'[z] v1 S1 (by simp [e1']) k1 k2 lr fr (d3.mono (by omega)) len1 eq1
  | cons c0 cr =>
    have hne : c ≠ [] := by rw [hc]; simp
    have e1' : vNe (.ref (r + 1)) (.lst []) S1 = some (.bl true, S1) := by rw [e1, hc]; rfl
    obtain ⟨q, hq⟩ : ∃ q, q = c.getLast hne := ⟨_, rfl⟩
    have hql : q < L.length := h.lt q (by rw [hq]; exact List.getLast_mem hne)
    obtain ⟨w, w1, -⟩ := h.cnt q _ (List.getElem?_eq_getElem hql)
    have g1 : vItem (.ref (r + 1)) (.int (-1)) S1 = some (.int (q : Nat), S1) := it_refl fr (by unfold inP; rw [List.getLast?_map, List.getLast?_eq_some_getLast hne, hq]; rfl)
    have g2 : vItem (.ref r) (.int (q : Nat)) S1 = some (.int (w : Nat), S1) := it_ref lr (by unfold inP; rw [List.getElem?_map, w1]; rfl)
    cases w with
    | zero =>
      have g2' : vItem (.ref r) (.int (q : Nat)) S1 = some (.int 0, S1) := g2
      exact go sm'[z] v1 S1 (by simp [-s_vItem, e1', g1, g2', vNeg]) k1 k2 lr fr (d3.mono (by omega)) len1 eq1
    | succ w =>
      obtain ⟨y, S2, y1, y2, y3, y4, y5⟩ := draw d3 (by omega) (many := 2) (by omega) (by omega)
      have lr2 : S2[r]? = some (.lst (inP lf)) := by rw [y4.eq r (by omega) (by omega)]; exact lr
      have fr2 : S2[r + 1]? = some (.lst (inP c)) := by rw [y4.eq (r + 1) (by omega) (by omega)]; exact fr
      have eq2 : ∀ x, x < r → x ≠ i → S2[x]? = S0[x]? := fun x hx hxi => by rw [y4.eq x (by omega) hxi]; exact eq1 x hx hxi
      have g3 : vItem (.ref (r + 1)) (.int (-1)) S2 = some (.int (q : Nat), S2) := it_refl fr2 (by unfold inP; rw [List.getLast?_map, List.getLast?_eq_some_getLast hne, hq]; rfl)
      have g4 : (0 : Int) < (w : Int) + 1 := by omega
      have g2' : vItem (.ref r) (.int (q : Nat)) S1 = some (.int ((w : Int) + 1), S1) := g2
      have hy : y = 0 ∨ y = 1 := by omega
      rcases hy with rfl | rfl
      · have y1' : m_l_draw [.ref i, .int 2] S1 = .ok (.int 0) S2 := y1
        exact go q w S2 (by simp [-s_vItem, e1', g1, g2', g3, g4, y1', vNeg]) hql w1 lr2 fr2 (y3.mono (by omega)) (by omega) eq2
      · have y1' : m_l_draw [.ref i, .int 2] S1 = .ok (.int 1) S2 := y1
        exact go sm'[z] v1 S2 (by simp [-s_vItem, e1', g1, g2', g3, g4, y1', vNeg]) k1 k2 lr2 fr2 (y3.mono (by omega)) (by omega) eq2
end K05

end

section
namespace K05
open PySem PySem.Spec PyProof.Rows L2 MX
/-- a comprehension that lays a list in the store -/
theorem sxLc_nw {ti : Si} {is : List Nat} {t : Sg} {c : St'} {te : Sx} {sp : Sl} {S S1 S2 : Sto} {xs ys : List PV} (h1 : ti sp S = .ok (.items xs) S1) (h2 : lcL (wipeP sp is) t c te xs S1 = .ok ys S2) (h3 : Fits ys.length) : sxLc nwL ti is t c te sp S = .ok (.ref S2.length) (S2 ++ [.lst ys]) := by
  rw [s_sxLc, h1]
  show (Out.pure (lcL (wipeP sp is) t c te xs S1) fun ys S2 => Out.of (nwL ys S2)) = _
  rw [h2]
  show Out.of (nwL _ _) = _
  rw [s_nwL, if_pos h3]
theorem course_ok {S : Sto} {i : Nat} {n : Int} {L : List (List Step)} (hL : LoOk L) (h : Ma i n S) (hn : n < 998000000) : ∃ (c : List Nat) (S' : Sto), m_l_course [.ref i, loP L] S = .ok (coP c) S' ∧ CoOk L c ∧ Ma i (n + 60) S' ∧ Ch i S S' := by
  have hi := h.lt
  have ht := total_le hL
  have h5 := hL.le
  have e0 := lcL_map1 (sp := [some (.ref i), some (loP L), none, none, none, none, none]) (t := sgName 6) (te := t_l_course_1) (S := S) deP (fun d => PV.int ((d.length + 1 : Nat) : Nat)) L fun a ha => by
    refine ⟨_, rfl, ?_⟩
    simp [t_l_course_1, deP, vAdd]
  have e1 := sxLc_nw (is := [6]) (t := sgName 6) (c := stYes) (te := t_l_course_1) (ti := siSeq (sxVar 1)) (sp := [some (.ref i), some (loP L), none, none, none, none, none]) (S := S) (S1 := S) (xs := L.map deP) (by unfold loP; simp) e0 (fits_of (by rw [List.length_map]; omega))
  have st : CI L i S.length n S (L.map fun d => d.length + 1) [] (S ++ [.lst (L.map fun d => PV.int ((d.length + 1 : Nat) : Nat))] ++ [.lst []]) := by
    refine ⟨?_, ?_, by simp, by simp, fun k d hk => ⟨d.length + 1, by rw [List.getElem?_map, hk]; rfl, by simp⟩, by simp, (h.app.app).mono (by simp), by simp, fun x hx hxi => ?_⟩
    · unfold inP; rw [List.map_map, List.append_assoc, List.getElem?_append_right (by omega)]; simp [Function.comp_def]
    · simp [inP]
    · rw [List.append_assoc, List.getElem?_append_left hx]
  obtain ⟨sp', S', w1, lf, c, a, b, d, rfl, w2, w3⟩ := whileN_inv (c := t_l_course_4) (b := t_l_course_5)
    (fun m sp S' => ∃ lf c a b d, sp = [some (.ref i), some (loP L), some (.ref S.length), some (.ref (S.length + 1)), a, b, d] ∧ CI L i S.length n S lf c S' ∧ m = lf.sum)
    (fun sp S' => ∃ lf c a b d, sp = [some (.ref i), some (loP L), some (.ref S.length), some (.ref (S.length + 1)), a, b, d] ∧ CI L i S.length n S lf c S' ∧ lf.sum = 0)
    (fun m sp S' ⟨lf, c, a, b, d, e, hI, hm⟩ => by
      subst e
      refine ⟨decide (0 < lf.sum), S', ?_, fun hk => ⟨lf, c, a, b, d, rfl, hI, by have := of_decide_eq_false hk; omega⟩, fun hk => ?_⟩
      · have f : vSum [.ref S.length] S' = some (.int (lf.sum : Nat), S') := by
          have q := sum_cast lf
          unfold vSum
          simp only [MX.listOf, hI.left, Option.bind]
          unfold inP
          rw [intsOf_map]
          simp only [Option.map_some]
          rw [← q]
        have g : decide ((0 : Int) < (lf.sum : Nat)) = decide (0 < lf.sum) := decide_eq_decide.mpr (by omega)
        simp only [t_l_course_4]
        simp [f]
      · obtain ⟨lf', c', S2, a', b', q1, q2, q3⟩ := course_turn (a := a) (b := b) (d := d) hL hI (by omega) hi (of_decide_eq_true hk)
        exact ⟨_, S2, lf'.sum, .inl q1, by omega, lf', c', a', b', d, rfl, q2, rfl⟩)
    1000000 ((L.map fun d => d.length + 1).sum) [some (.ref i), some (loP L), some (.ref S.length), some (.ref (S.length + 1)), none, none, none] (S ++ [.lst (L.map fun d => PV.int ((d.length + 1 : Nat) : Nat))] ++ [.lst []]) (by omega) ⟨_, _, _, _, _, rfl, st, rfl⟩
  have hz := sum_zero w3
  have hsum := w2.sum
  refine ⟨c, S', ?_, ⟨w2.lt, fun k d hk => ?_, by omega⟩, w2.ma.mono (by omega), ⟨by have := w2.len; omega, w2.eq⟩⟩
  · have f : S'[S.length + 1]? = some (.lst (inP c)) := w2.found
    have e2 : (S ++ [SO.lst (L.map fun d => PV.int ((d.length + 1 : Nat) : Nat))]).length = S.length + 1 := by simp
    have A : (ssAsg (sxN vTup (saCons (sxLc nwL (siSeq (sxVar 1)) [6] (sgName 6) stYes t_l_course_1) (saCons (sxN vNew saNil) saNil))) (sgTup 2 (sgCons (sgName 2) (sgCons (sgName 3) sgNil)))) [some (.ref i), some (loP L), none, none, none, none, none] S =
        .nx [some (.ref i), some (loP L), some (.ref S.length), some (.ref (S.length + 1)), none, none, none] (S ++ [.lst (L.map fun d => PV.int ((d.length + 1 : Nat) : Nat))] ++ [.lst []]) := by
      simp [-s_sxLc, -List.append_assoc, -Int.natCast_add, e1]
    have T : t_l_course [some (.ref i), some (loP L), none, none, none, none, none] S = .rt (.tup (inP c)) S' := by
      unfold t_l_course
      rw [s_ssSeq, A]
      show ssSeq _ _ _ _ = _
      rw [s_ssSeq, s_ssWhile, w1]
      show ssRet _ _ _ = _
      simp [f, MX.listOf]
    simp [m_l_course, T, coP, inP]
  · obtain ⟨v, v1, v2⟩ := w2.cnt k d hk
    have := hz k v v1
    omega
end K05

end

section
namespace K05
open PySem PySem.Spec PyProof.Rows L2 MX
def ins (l : List Int) : PV := .lst (l.map PV.int)
theorem cut_ints (l : List Int) (lo hi : Option Int) : ∃ l' : List Int, cutP (l.map PV.int) lo hi = l'.map PV.int ∧ l'.length ≤ l.length := by
  unfold cutP
  refine ⟨(l.drop (HT.sIx (l.map PV.int).length 0 lo)).take (HT.sIx (l.map PV.int).length (l.map PV.int).length hi - HT.sIx (l.map PV.int).length 0 lo), by rw [List.map_take, List.map_drop], ?_⟩
  rw [List.length_take, List.length_drop]; omega
theorem toDs_ints : ∀ l : List Int, toDs (l.map PV.int) = some (l.map PyData.int)
  | [] => rfl
  | a :: l => by simp [toDs, toDs_ints l, toD]
theorem ne_ints {l : List Int} {S : Sto} : vNe (ins l) (.lst []) S = some (.bl (!l.isEmpty), S) := by
  have h1 : ∀ l : List Int, PyData.canLayAll0 (l.map PyData.int) = true := fun l => by
    induction l with
    | nil => rfl
    | cons a l ih => simp [PyData.canLayAll0, PyData.canLay0, ih]
  have h2 : ∀ l : List Int, PyData.depthAll (l.map PyData.int) = 0 := fun l => by
    induction l with
    | nil => rfl
    | cons a l ih => simp [PyData.depthAll, PyData.depth, ih]
  have d1 : dOf S (ins l) = some (.list (l.map PyData.int)) := by
    show (toDs (l.map PV.int)).map PyData.list = _
    rw [toDs_ints]; rfl
  have d2 : dOf S (.lst []) = some (.list []) := rfl
  have sh : SeqAt.shaped (.list (l.map PyData.int)) = true := by
    unfold SeqAt.shaped
    simp [PyData.canLay0, PyData.depth, h1, h2]
  unfold vNe
  rw [d1, d2]
  show (if _ ∧ _ then _ else _) = _
  rw [if_pos ⟨sh, rfl⟩]
  congr 3
  cases l <;> rfl
theorem begun_ok {ns : List Int} {k : Nat} {S : Sto} (hn : ns.length ≤ 63) (hk : k < 100) : ∃ m, m_l_begun [ins ns, .int (k : Nat)] S = .ok (.ref S.length) (S ++ [m]) ∧ Ma S.length 0 (S ++ [m]) := by
  obtain ⟨c1, a1, b1⟩ := cut_ints ns (some (k : Nat)) none
  obtain ⟨c2, a2, b2⟩ := cut_ints ns none (some (k : Nat))
  have f1 : vSl (ins ns) (some (k : Nat)) none S = some (ins c1, S) := by
    show some (PV.lst (cutP (ns.map PV.int) (some (k : Nat)) none), S) = _
    rw [a1]; rfl
  have f2 : vSl (ins ns) none (some (k : Nat)) S = some (ins c2, S) := by
    show some (PV.lst (cutP (ns.map PV.int) none (some (k : Nat))), S) = _
    rw [a2]; rfl
  have addL : ∀ (x y : List Int), x.length + y.length ≤ 1000 → vAdd (ins x) (ins y) S = some (ins (x ++ y), S) := fun x y h => by
    show (if (x.map PV.int).length + (y.map PV.int).length ≤ sizeLine then _ else _) = _
    rw [if_pos (by rw [List.length_map, List.length_map]; exact Nat.le_trans h (by decide)), ← List.map_append]; rfl
  have f3 := addL c1 c2 (by omega)
  obtain ⟨cs, ecs⟩ : ∃ cs, cs = c1 ++ c2 := ⟨_, rfl⟩
  have hcs : cs.length ≤ 126 := by rw [ecs, List.length_append]; omega
  rw [← ecs] at f3
  have f4 : vPow (.int 10) (.int 18) S = some (.int 1000000000000000000, S) := rfl
  have g0 := lcL_map (sp := [some (ins ns), some (.int (k : Nat)), some (ins cs), none, none, none]) (t := sgName 5) (c := t_l_begun_1) (te := t_l_begun_2) (S := S) PV.int PV.int (fun x => decide ((1000000000000000000 : Int) ≤ x)) cs fun x hx => ⟨_, rfl, by simp only [t_l_begun_1]; simp [f4], fun _ => by simp [t_l_begun_2]⟩
  obtain ⟨gs, egs⟩ : ∃ gs, gs = cs.filter fun x => decide ((1000000000000000000 : Int) ≤ x) := ⟨_, rfl⟩
  rw [← egs] at g0
  have hgs : gs.length ≤ 126 := by rw [egs]; exact Nat.le_trans (List.length_filter_le _ _) hcs
  have g1 := sxLc_fz (is := [5]) (t := sgName 5) (c := t_l_begun_1) (te := t_l_begun_2) (ti := siSeq (sxVar 2)) (sp := [some (ins ns), some (.int (k : Nat)), some (ins cs), none, none, none]) (S := S) (S1 := S) (by unfold ins; simp) g0 (fits_of (by rw [List.length_map]; omega))
  obtain ⟨sp', S', l1, rfl, sd, z, rfl⟩ := forL_inv0 (t := sgName 5) (b := t_l_begun_3) (fun _ sp S' => S' = S ∧ ∃ (sd : Int) (z : Option PV), sp = [some (ins ns), some (.int (k : Nat)), some (ins cs), some (ins gs), some (.int sd), z]) (xs := cs.map PV.int)
    (sp := [some (ins ns), some (.int (k : Nat)), some (ins cs), some (ins gs), some (.int (89 + (k : Nat))), none]) (S := S) ⟨rfl, _, _, rfl⟩ (fun j x sp S' hx ⟨e1, sd, z, e2⟩ => by
      subst e1 e2
      obtain ⟨y, q, rfl⟩ := map_get hx
      have m1 := mulI (a := sd) (b := 48271) (S := S') (.inr ⟨by omega, by omega⟩)
      have m2 := modI (a := sd * 48271 + y) (b := 2147483647) (S := S') (by omega)
      refine ⟨_, [some (ins ns), some (.int (k : Nat)), some (ins cs), some (ins gs), some (.int ((sd * 48271 + y).fmod 2147483647)), some (.int y)], S', rfl, .inl ?_, rfl, _, _, rfl⟩
      simp only [t_l_begun_3]
      simp [m1, m2, addI])
  have h1 := ne_ints (l := gs) (S := S')
  have h2 := mulI (a := 29) (b := (k : Nat)) (S := S') (.inl ⟨by omega, by omega⟩)
  have h3 := addL cs [29 * ((k : Nat) : Int) + 7] (by simp; omega)
  have g1' : (sxLc fzL (siSeq (sxVar 2)) [5] (sgName 5) t_l_begun_1 t_l_begun_2) [some (ins ns), some (.int (k : Nat)), some (ins cs), none, none, none] S' = .ok (ins gs) S' := g1
  have key : ∀ l : Int, (sxIf (stB (sx2 vNe (sxVar 3) (sxN vLst saNil))) (sx2 vItem (sxVar 3) (sxC (.int 0))) (sxC (.int 0))) [some (ins ns), some (.int (k : Nat)), some (ins cs), some (ins gs), some (.int sd), z] S' = .ok (.int l) S' → m_l_begun [ins ns, .int (k : Nat)] S' = .ok (.ref S'.length) (S' ++ [mach l sd (cs ++ [29 * ((k : Nat) : Int) + 7]) 0]) := fun l hl => by
    have h3' : vAdd (ins cs) (.lst [.int (29 * ((k : Nat) : Int) + 7)]) S' = some (ins (cs ++ [29 * ((k : Nat) : Int) + 7]), S') := h3
    have l1' : forL (sgName 5) t_l_begun_3 (cs.map PV.int) [some (ins ns), some (.int (k : Nat)), some (ins cs), some (ins gs), some (.int (89 + (k : Nat))), none] S' = _ := l1
    have src : srcOf (ins cs) S' = .ok (.items (cs.map PV.int)) S' := rfl
    simp only [m_l_begun, t_l_begun]
    simp [-s_sxLc, -s_sxIf, -s_srcOf, f1, f2, f3, g1', addI, l1', src, hl, h2, h3', sxDisp, saPairs]
    rfl
  have fin : ∀ l : Int, m_l_begun [ins ns, .int (k : Nat)] S' = .ok (.ref S'.length) (S' ++ [mach l sd (cs ++ [29 * ((k : Nat) : Int) + 7]) 0]) → ∃ m, m_l_begun [ins ns, .int (k : Nat)] S' = .ok (.ref S'.length) (S' ++ [m]) ∧ Ma S'.length 0 (S' ++ [m]) := fun l e =>
    ⟨_, e, l, sd, cs ++ [29 * ((k : Nat) : Int) + 7], 0, by simp, by simp, by omega, by omega⟩
  cases hg : gs with
  | nil =>
    rw [hg] at h1
    exact fin 0 (key 0 (by rw [hg]; simp [h1]))
  | cons g r =>
    rw [hg] at h1
    have i0 : vItem (ins (g :: r)) (.int 0) S' = some (.int g, S') := it_lst (i := 0) (xs := (g :: r).map PV.int) rfl
    exact fin g (key g (by rw [hg]; simp [-s_vItem, h1, i0]))
end K05

end

section
namespace K05
open PySem PySem.Spec PyProof.Rows L2 MX
theorem law_turn {S : Sto} {i : Nat} {n : Int} {L : List (List Step)} {a b c e : Option PV} (hL : LoOk L) (h : Ma i n S) (hn : n < 900000000) :
    ∃ (S' : Sto) (e' : Option PV), t_law_1 [a, b, some (.ref i), some (loP L), c, e] S = .nx [a, b, some (.ref i), some (loP L), c, e'] S' ∧ Ma i (n + 100) S' := by
  obtain ⟨co, S1, e1, h1, m1, c1⟩ := course_ok hL h (by omega)
  obtain ⟨lv, S2, e2, n2, l2, m2, c2⟩ := tiers_ok hL m1 (by omega)
  obtain ⟨G1, r1⟩ := right_ok (S := S2) ⟨hL, n2, l2, h1⟩
  obtain ⟨lv', S3, e3, n3, l3, m3, c3⟩ := tiers_ok hL (m2.app (G := G1)) (by omega)
  obtain ⟨G2, r2⟩ := right_ok (S := S3) ⟨hL, n3, l3, h1⟩
  obtain ⟨G3, r3⟩ := alike_ok (S := S3 ++ G2) hL h1
  refine ⟨S3 ++ G2 ++ G3, some (coP co), ?_, m3.app.app.mono (by omega)⟩
  simp only [t_law_1]
  simp [-List.append_assoc, e1, e2, r1, e3, r2, r3]
theorem law_of {ns : List Int} (hn : ns.length ≤ 63) (hand : ∀ S : Sto, ∃ S', m_l_hand [] S = .ok (.bl true) S') : ∃ S', m_law [.lst (ns.map PV.int)] [] = .ok (.bl true) S' := by
  obtain ⟨t, ht⟩ : ∃ t, t = 3 + min ns.length 6 := ⟨_, rfl⟩
  obtain ⟨sp', S', l1, a, b, c, d, e, rfl⟩ := forL_inv0 (t := sgName 1) (b := t_law_2) (fun _ sp S' => ∃ a b c d e, sp = [some (ins ns), a, b, c, d, e]) (xs := rngP 0 t)
    (sp := [some (ins ns), none, none, none, none, none]) (S := []) ⟨_, _, _, _, _, rfl⟩ (fun j x sp S hx ⟨a, b, c, d, e, e2⟩ => by
      subst e2
      obtain ⟨hj, rfl⟩ := rngP_get hx
      rw [Int.zero_add]
      obtain ⟨m, b1, b2⟩ := begun_ok (ns := ns) (k := j) (S := S) hn (by omega)
      obtain ⟨L, S2, c1, hL, m2, _⟩ := crew_ok b2 (by omega)
      obtain ⟨sp', S', q1, q2, a', b', q3⟩ := forL_inv0 (t := sgName 4) (b := t_law_1) (fun jj sp S' => (jj ≤ 5 → Ma S.length (0 + 100 + 100 * jj) S') ∧ ∃ a b, sp = [some (ins ns), some (.int (j : Nat)), some (.ref S.length), some (loP L), a, b]) (xs := rngP 0 5)
        (sp := [some (ins ns), some (.int (j : Nat)), some (.ref S.length), some (loP L), d, e]) (S := S2) ⟨fun _ => m2.mono (by omega), _, _, rfl⟩ (fun jj x sp S' hx ⟨q1, a, b, q2⟩ => by
          subst q2
          obtain ⟨hjj, rfl⟩ := rngP_get hx
          obtain ⟨S'', e', t1, t2⟩ := law_turn (a := some (ins ns)) (b := some (.int (j : Nat))) (c := some (.int (0 + (jj : Nat)))) (e := b) hL (q1 (by omega)) (by omega)
          exact ⟨_, _, S'', rfl, .inl t1, fun _ => t2.mono (by omega), _, _, rfl⟩)
      subst q3
      have r1 : siRange1 (sxC (.int 5)) [some (ins ns), some (.int (j : Nat)), some (.ref S.length), some (loP L), d, e] S2 = .ok (.items (rngP 0 5)) S2 := rng1 (n := 5) (by simp) (by omega)
      refine ⟨_, [some (ins ns), some (.int (j : Nat)), some (.ref S.length), some (loP L), a', b'], S', rfl, .inl ?_, _, _, _, _, _, rfl⟩
      simp only [t_law_2]
      simp [-s_siRange1, b1, c1, r1, q1])
  obtain ⟨S2, h2⟩ := hand S'
  have r1 : siRange1 (sx2 vAdd (sxC (.int 3)) (sxN vMin2 (saCons (sxN vLen (saCons (sxVar 0) saNil)) (saCons (sxC (.int 6)) saNil)))) [some (ins ns), none, none, none, none, none] [] = .ok (.items (rngP 0 t)) [] := by
    refine rng1 (n := t) ?_ (by omega)
    have e : ((3 : Int) + if (6 : Int) < (ns.length : Int) then (6 : Int) else (ns.length : Int)) = (t : Int) := by split <;> omega
    unfold ins
    simp [addI, e]
  refine ⟨S2, ?_⟩
  have T : t_law [some (ins ns), none, none, none, none, none] [] = .rt (.bl true) S2 := by
    unfold t_law
    rw [s_ssSeq]
    have A : (ssFor (siRange1 (sx2 vAdd (sxC (.int 3)) (sxN vMin2 (saCons (sxN vLen (saCons (sxVar 0) saNil)) (saCons (sxC (.int 6)) saNil))))) (sgName 1) t_law_2) [some (ins ns), none, none, none, none, none] [] = .nx [some (ins ns), a, b, c, d, e] S' := by
      simp [-s_siRange1, r1, l1]
    rw [A]
    show ssRet _ _ _ = _
    simp [h2]
  unfold ins at T
  simp [m_law, T]
end K05

end

section
namespace K05
open PySem PySem.Spec PyProof.Rows L2 MX
theorem de0 : DeOk0 [] := ⟨by simp, by simp⟩
theorem deOf {d : List Step} (h : DeOk0 d) (h1 : d ≠ []) (h2 : d.length ≤ 5) : DeOk d := ⟨h1, h2, h.w, h.f⟩
theorem de1 {s : Step} (h : s.2 ∈ words) : DeOk [s] := deOf (de0.snoc h (by simp) (.inr (by simp))) (by simp) (by simp)
theorem de2 {s t : Step} (h : s.2 ∈ words) (k : t.2 ∈ words) (h1 : t ∉ [s]) (h2 : t.1 = true ∨ (true, t.2) ∉ [s]) : DeOk [s, t] := deOf ((de0.snoc h (by simp) (.inr (by simp))).snoc k h1 h2) (by simp) (by simp)
def lA : Step := (false, "a")
def lB : Step := (false, "b")
def mA : Step := (true, "a")
def mB : Step := (true, "b")
def two : List (List Step) := [[lA, lB], [mA, mB]]
def three : List (List Step) := [[lA, mA], [mA], [mA, lB]]
def mks : List (List Step) := [[mA], [mA, mB]]
def lone : List (List Step) := [[lA]]
theorem two_ok : LoOk two := ⟨by simp [two], by decide, fun d hd => by
  simp only [two, List.mem_cons, List.not_mem_nil, or_false] at hd
  rcases hd with rfl | rfl <;> exact de2 (by decide +kernel) (by decide +kernel) (by decide +kernel) (by decide +kernel)⟩
theorem three_ok : LoOk three := ⟨by simp [three], by decide, fun d hd => by
  simp only [three, List.mem_cons, List.not_mem_nil, or_false] at hd
  rcases hd with rfl | rfl | rfl
  · exact de2 (by decide +kernel) (by decide +kernel) (by decide +kernel) (by decide +kernel)
  · exact de1 (by decide +kernel)
  · exact de2 (by decide +kernel) (by decide +kernel) (by decide +kernel) (by decide +kernel)⟩
theorem mks_ok : LoOk mks := ⟨by simp [mks], by decide, fun d hd => by
  simp only [mks, List.mem_cons, List.not_mem_nil, or_false] at hd
  rcases hd with rfl | rfl
  · exact de1 (by decide +kernel)
  · exact de2 (by decide +kernel) (by decide +kernel) (by decide +kernel) (by decide +kernel)⟩
theorem lone_ok : LoOk lone := ⟨by simp [lone], by decide, fun d hd => by
  simp only [lone, List.mem_cons, List.not_mem_nil, or_false] at hd
  subst hd
  exact de1 (by decide +kernel)⟩
theorem co_of {L : List (List Step)} {c : List Nat} (h1 : (c.all fun k => decide (k < L.length)) = true) (h2 : ((List.range L.length).all fun k => decide (some (c.count k) = (L[k]?).map fun d => d.length + 1)) = true) (h3 : c.length = (L.map fun d => d.length + 1).sum) : CoOk L c :=
  ⟨fun k hk => of_decide_eq_true (List.all_eq_true.mp h1 k hk), fun k d hd => by
    have := of_decide_eq_true (List.all_eq_true.mp h2 k (List.mem_range.mpr (List.getElem?_eq_some_iff.mp hd).1))
    rw [hd] at this
    exact Option.some.inj this, h3⟩
theorem all_of {L : List (List Step)} {lv : List Str} {c : List Nat} (h : LoOk L) (h0 : lv.length = L.length) (h1 : (lv.all fun x => decide (x ∈ lvls)) = true) (h2 : CoOk L c) : AllOk L lv c := ⟨h, h0, fun x hx => of_decide_eq_true (List.all_eq_true.mp h1 x hx), h2⟩
theorem seq_step {t u : Ss} {sp sp' : Sl} {S S' : Sto} {o : SOut} (h : t sp S = .nx sp' S') (k : u sp' S' = o) : ssSeq t u sp S = o := by rw [s_ssSeq, h]; exact k
def c1 : List Nat := [0, 1, 1, 1, 0, 0]
def c2 : List Nat := [1, 2, 2, 2, 1, 0, 0, 0]
def c3 : List Nat := [1, 2, 2, 1, 2, 0, 0, 0]
def en (a b : Int) (o : PV) : PV := .tup [.int a, .int b, o]
theorem u1 : due two ["late", "late"] c1 = [en 0 0 .non, en 0 1 (.int 1)] := by kernel_rfl
theorem u2 : due two ["early", "late"] c1 = [en 0 0 .non, en 0 1 .non] := by kernel_rfl
theorem u3 : due two ["guarded", "late"] c1 = [en 0 0 .non, en 0 1 .non] := by kernel_rfl
theorem v1 : due three ["late", "late", "late"] c2 = [en 0 0 (.int 1), en 2 1 .non] := by kernel_rfl
theorem v2 : due three ["late", "late", "guarded"] c2 = [en 0 0 (.int 1), en 2 1 .non] := by kernel_rfl
theorem w1 : due three ["late", "early", "early"] c3 = [en 0 0 (.int 2), en 2 1 .non] := by kernel_rfl
theorem w2 : due three ["early", "early", "early"] c3 = [en 0 0 (.int 2), en 2 1 .non] := by kernel_rfl
theorem x1 : due mks ["guarded", "late"] [1, 0, 0, 1, 1] = [] := by kernel_rfl
theorem x2 : due lone ["late"] [0, 0] = [en 0 0 .non] := by kernel_rfl
section
variable {S : Sto} {a b c d e f g : Option PV}
theorem hs1 {x : Str} (hx : x ∈ lvls) : ∃ G, t_l_hand_1 [some (loP two), a, b, c, d, e, f, some (.str x)] S = .ok (.tup (due two [x, "late"] c1)) (S ++ G) := by
  obtain ⟨G, q⟩ := seen_ok (S := S) (all_of (L := two) (lv := [x, "late"]) (c := c1) two_ok rfl (by have q := hx; simp only [lvls, List.mem_cons, List.not_mem_nil, or_false] at q; simp [lvls, q]) (co_of (by decide +kernel) (by decide +kernel) (by decide +kernel)))
  have q' : m_seen [loP two, .tup [.str x, .str "late"], .tup [.int 0, .int 1, .int 1, .int 1, .int 0, .int 0]] S = .ok (.tup (due two [x, "late"] c1)) (S ++ G) := q
  exact ⟨G, by simp only [t_l_hand_1]; simp [q']⟩
theorem hs2 {x : Str} (hx : x ∈ lvls) : ∃ G, t_l_hand_2 [a, b, c, some (loP three), d, e, f, some (.str x)] S = .ok (.tup (due three ["late", "late", x] c2)) (S ++ G) := by
  obtain ⟨G, q⟩ := seen_ok (S := S) (all_of (L := three) (lv := ["late", "late", x]) (c := c2) three_ok rfl (by have q := hx; simp only [lvls, List.mem_cons, List.not_mem_nil, or_false] at q; simp [lvls, q]) (co_of (by decide +kernel) (by decide +kernel) (by decide +kernel)))
  have q' : m_seen [loP three, .tup [.str "late", .str "late", .str x], .tup [.int 1, .int 2, .int 2, .int 2, .int 1, .int 0, .int 0, .int 0]] S = .ok (.tup (due three ["late", "late", x] c2)) (S ++ G) := q
  exact ⟨G, by simp only [t_l_hand_2]; simp [q']⟩
theorem hs3 {x : Str} (hx : x ∈ lvls) : ∃ G, t_l_hand_3 [a, b, c, some (loP three), d, e, f, some (.str x)] S = .ok (.tup (due three [x, "early", "early"] c3)) (S ++ G) := by
  obtain ⟨G, q⟩ := seen_ok (S := S) (all_of (L := three) (lv := [x, "early", "early"]) (c := c3) three_ok rfl (by have q := hx; simp only [lvls, List.mem_cons, List.not_mem_nil, or_false] at q; simp [lvls, q]) (co_of (by decide +kernel) (by decide +kernel) (by decide +kernel)))
  have q' : m_seen [loP three, .tup [.str x, .str "early", .str "early"], .tup [.int 1, .int 2, .int 2, .int 1, .int 2, .int 0, .int 0, .int 0]] S = .ok (.tup (due three [x, "early", "early"] c3)) (S ++ G) := q
  exact ⟨G, by simp only [t_l_hand_3]; simp [q']⟩
end
theorem lc2 {sp : Sl} {i : Nat} {te : Sx} {a b x y : PV} {S S1 S2 : Sto} (h1 : te (sp.set i (some a)) S = .ok x S1) (h2 : te (sp.set i (some b)) S1 = .ok y S2) : lcL sp (sgName i) stYes te [a, b] S = .ok [x, y] S2 := by
  simp [lcL, h1, h2]
theorem self_ne {v : PV} {S : Sto} (h : sm v = true) (h2 : dp v ≤ 64) : vNe v v S = some (.bl false, S) := vNe_self h h2
theorem hand_ok (S : Sto) : ∃ S', m_l_hand [] S = .ok (.bl true) S' := by
  have l1 : ("late" : Str) ∈ lvls := by simp [lvls]
  have l2 : ("early" : Str) ∈ lvls := by simp [lvls]
  have l3 : ("guarded" : Str) ∈ lvls := by simp [lvls]
  obtain ⟨G1, a1⟩ := hs1 (S := S) (a := none) (b := none) (c := none) (d := none) (e := none) (f := none) l1
  obtain ⟨G2, a2⟩ := hs1 (S := S ++ G1) (a := none) (b := none) (c := none) (d := none) (e := none) (f := none) l2
  obtain ⟨G3, a3⟩ := hs1 (S := S ++ G1 ++ G2) (a := none) (b := none) (c := none) (d := none) (e := none) (f := none) l3
  rw [u1] at a1
  rw [u2] at a2
  rw [u3] at a3
  obtain ⟨T, hT⟩ : ∃ T, T = S ++ G1 ++ G2 ++ G3 := ⟨_, rfl⟩
  rw [← hT] at a3
  have A := sxLc_fz (is := [7]) (sp := [some (loP two), none, none, none, none, none, none, none]) (ti := siSeq (sxN vTup (saCons (sxC (.str "late")) (saCons (sxC (.str "early")) (saCons (sxC (.str "guarded")) saNil))))) (S := S) (S1 := S) (xs := [.str "late", .str "early", .str "guarded"]) (by simp) (lc3 (sp := [some (loP two), none, none, none, none, none, none, none]) (i := 7) a1 a2 a3) (fits_of (by simp))
  obtain ⟨R1, hR1⟩ : ∃ R, R = PV.lst [.tup [en 0 0 .non, en 0 1 (.int 1)], .tup [en 0 0 .non, en 0 1 .non], .tup [en 0 0 .non, en 0 1 .non]] := ⟨_, rfl⟩
  rw [← hR1] at A
  obtain ⟨Ea, hEa⟩ : ∃ E, E = PV.tup [en 0 0 .non, en 0 1 .non] := ⟨_, rfl⟩
  obtain ⟨K1, b1⟩ := hs2 (S := T) (a := some (loP two)) (b := some R1) (c := some Ea) (d := none) (e := none) (f := none) l1
  obtain ⟨K2, b2⟩ := hs2 (S := T ++ K1) (a := some (loP two)) (b := some R1) (c := some Ea) (d := none) (e := none) (f := none) l3
  rw [v1] at b1
  rw [v2] at b2
  obtain ⟨T2, hT2⟩ : ∃ T2, T2 = T ++ K1 ++ K2 := ⟨_, rfl⟩
  rw [← hT2] at b2
  have B := sxLc_fz (is := [7]) (sp := [some (loP two), some R1, some Ea, some (loP three), none, none, none, none]) (ti := siSeq (sxN vTup (saCons (sxC (.str "late")) (saCons (sxC (.str "guarded")) saNil)))) (S := T) (S1 := T) (xs := [.str "late", .str "guarded"]) (by simp) (lc2 (sp := [some (loP two), some R1, some Ea, some (loP three), none, none, none, none]) (i := 7) b1 b2) (fits_of (by simp))
  obtain ⟨R2, hR2⟩ : ∃ R, R = PV.lst [.tup [en 0 0 (.int 1), en 2 1 .non], .tup [en 0 0 (.int 1), en 2 1 .non]] := ⟨_, rfl⟩
  rw [← hR2] at B
  obtain ⟨J1, d1⟩ := hs3 (S := T2) (a := some (loP two)) (b := some R2) (c := some Ea) (d := none) (e := none) (f := none) l1
  obtain ⟨J2, d2⟩ := hs3 (S := T2 ++ J1) (a := some (loP two)) (b := some R2) (c := some Ea) (d := none) (e := none) (f := none) l2
  rw [w1] at d1
  rw [w2] at d2
  obtain ⟨T3, hT3⟩ : ∃ T3, T3 = T2 ++ J1 ++ J2 := ⟨_, rfl⟩
  rw [← hT3] at d2
  have D := sxLc_fz (is := [7]) (sp := [some (loP two), some R2, some Ea, some (loP three), none, none, none, none]) (ti := siSeq (sxN vTup (saCons (sxC (.str "late")) (saCons (sxC (.str "early")) saNil)))) (S := T2) (S1 := T2) (xs := [.str "late", .str "early"]) (by simp) (lc2 (sp := [some (loP two), some R2, some Ea, some (loP three), none, none, none, none]) (i := 7) d1 d2) (fits_of (by simp))
  obtain ⟨R3, hR3⟩ : ∃ R, R = PV.lst [.tup [en 0 0 (.int 2), en 2 1 .non], .tup [en 0 0 (.int 2), en 2 1 .non]] := ⟨_, rfl⟩
  rw [← hR3] at D
  obtain ⟨G8, q8⟩ := seen_ok (S := T3) (all_of (L := mks) (lv := ["guarded", "late"]) (c := [1, 0, 0, 1, 1]) mks_ok rfl (by decide +kernel) (co_of (by decide +kernel) (by decide +kernel) (by decide +kernel)))
  obtain ⟨G9, q9⟩ := seen_ok (S := T3 ++ G8) (all_of (L := lone) (lv := ["late"]) (c := [0, 0]) lone_ok rfl (by decide +kernel) (co_of (by decide +kernel) (by decide +kernel) (by decide +kernel)))
  rw [x1] at q8
  rw [x2] at q9
  have q8' : m_seen [loP mks, .tup [.str "guarded", .str "late"], .tup [.int 1, .int 0, .int 0, .int 1, .int 1]] T3 = .ok (.tup []) (T3 ++ G8) := q8
  have q9' : m_seen [loP lone, .tup [.str "late"], .tup [.int 0, .int 0]] (T3 ++ G8) = .ok (.tup [en 0 0 .non]) (T3 ++ G8 ++ G9) := q9
  have n1 : vNe R1 (.lst [.tup [.tup [.int 0, .int 0, .non], .tup [.int 0, .int 1, .int 1]], Ea, Ea]) T = some (.bl false, T) := by subst hR1 hEa; exact vNe_self (by decide +kernel) (by decide +kernel)
  have n2 : vNe R2 (.lst [.tup [.tup [.int 0, .int 0, .int 1], .tup [.int 2, .int 1, .non]], .tup [.tup [.int 0, .int 0, .int 1], .tup [.int 2, .int 1, .non]]]) T2 = some (.bl false, T2) := by subst hR2; exact vNe_self (by decide +kernel) (by decide +kernel)
  have n3 : vNe R3 (.lst [.tup [.tup [.int 0, .int 0, .int 2], .tup [.int 2, .int 1, .non]], .tup [.tup [.int 0, .int 0, .int 2], .tup [.int 2, .int 1, .non]]]) T3 = some (.bl false, T3) := by subst hR3; exact vNe_self (by decide +kernel) (by decide +kernel)
  have m2 : ∀ (v : PV) (S : Sto), vMulT (.lst [v]) (.int 2) S = some (.lst [v, v], S) := fun v S => rfl
  have n4 : vEq (.lst [.tup [], .tup [en 0 0 .non]]) (.lst [.tup [], .tup [.tup [.int 0, .int 0, .non]]]) (T3 ++ G8 ++ G9) = some (.bl true, T3 ++ G8 ++ G9) := vEq_self (a := .lst [.tup [], .tup [en 0 0 .non]]) (by decide +kernel) (by decide +kernel)
  have TT : t_l_hand [none, none, none, none, none, none, none, none] S = .rt (.bl true) (T3 ++ G8 ++ G9) := by
    unfold t_l_hand
    refine seq_step (sp' := [some (loP two), none, none, none, none, none, none, none]) (S' := S) (by simp; rfl) ?_
    refine seq_step (sp' := [some (loP two), some R1, none, none, none, none, none, none]) (S' := T) (by rw [s_ssSet, A]; rfl) ?_
    refine seq_step (sp' := [some (loP two), some R1, some Ea, none, none, none, none, none]) (S' := T) (by subst hEa; simp; exact ⟨rfl, rfl⟩) ?_
    refine seq_step (sp' := [some (loP two), some R1, some Ea, none, none, none, none, none]) (S' := T) (by simp [n1]) ?_
    refine seq_step (sp' := [some (loP two), some R1, some Ea, some (loP three), none, none, none, none]) (S' := T) (by simp; rfl) ?_
    refine seq_step (sp' := [some (loP two), some R2, some Ea, some (loP three), none, none, none, none]) (S' := T2) (by rw [s_ssSet, B]; rfl) ?_
    refine seq_step (sp' := [some (loP two), some R2, some Ea, some (loP three), none, none, none, none]) (S' := T2) (by simp [n2, m2]) ?_
    refine seq_step (sp' := [some (loP two), some R3, some Ea, some (loP three), none, none, none, none]) (S' := T3) (by rw [s_ssSet, D]; rfl) ?_
    refine seq_step (sp' := [some (loP two), some R3, some Ea, some (loP three), none, none, none, none]) (S' := T3) (by simp [n3, m2]) ?_
    refine seq_step (sp' := [some (loP two), some R3, some Ea, some (loP three), some (loP mks), none, none, none]) (S' := T3) (by simp; rfl) ?_
    refine seq_step (sp' := [some (loP two), some R3, some Ea, some (loP three), some (loP mks), some (loP lone), none, none]) (S' := T3) (by simp; rfl) ?_
    refine seq_step (sp' := [some (loP two), some R3, some Ea, some (loP three), some (loP mks), some (loP lone), some (.lst [.tup [], .tup [en 0 0 .non]]), none]) (S' := T3 ++ G8 ++ G9) (by simp [-List.append_assoc, q8', q9']) ?_
    simp [-List.append_assoc, n4]
  exact ⟨_, by simp [m_l_hand, TT]; rfl⟩
theorem law_pure (ns : List Int) (hn : ns.length ≤ 63) : ∃ S', m_law [.lst (ns.map PV.int)] [] = .ok (.bl true) S' := law_of hn hand_ok
end K05

end

section
set_option maxHeartbeats 0
open PySem PySem.W PySem.Calls PyProof.Rows
theorem PySem.Challenge.cw_mixedlevels_k05_whole_sights_holds : PySem.Challenge.rw_mixedlevels_k05_whole_sights.Holds := by
  w_on; o_law
  refine HandSHeadRun.head_any (r := OpenLaw.row PySem.Challenge.rw_mixedlevels_k05_whole_sights) (q := view (OpenLaw.row PySem.Challenge.rw_mixedlevels_k05_whole_sights).prog [51]) (H := K05.hk) (ob := K05.ob) (M := 4000) (loose := K05.loose) (d := HandSHeadRun.topDef (OpenLaw.row PySem.Challenge.rw_mixedlevels_k05_whole_sights).prog 51) (kwd := []) K05.ob_eq
    (by kernel_rfl) (fun s => by kernel_rfl) K05.run (by kernel_rfl) (by kernel_rfl) (by kernel_rfl) (by rfl) (by first | assumption | decide +kernel) (by decide +kernel) ⟨rfl, rfl, rfl, rfl, rfl, by decide +kernel⟩ ?hw ?hc
  case hw => w_witness2
  case hc =>
    refine MX.law_walk (l := PySem.Challenge.rw_mixedlevels_k05_whole_sights) (n := 63) (k := 11) (x := "_law_script") rfl (by decide) (by kernel_rfl) ⟨rfl, by decide, by decide⟩ ?F
    intro w mg fa h Y G hmg0
    obtain ⟨K, KX, c⟩ := Y
    have hmg : mg ("law" : PySem.Str) = some (.ref fa) := by
      have e : (HandSHeadRun.topDef (OpenLaw.row PySem.Challenge.rw_mixedlevels_k05_whole_sights).prog 51).name = ("law" : PySem.Str) := by kernel_rfl
      rw [← e]
      exact hmg0
    have T := K05.txt KX G c
    have e := hmg.symm.trans T.g_law
    cases e
    exact ⟨K, _, K05.m_law, KX, fun s u => L2.FunD.bindsA (ps := ["_law_script"]) T.F_law (fun _ _ _ _ _ _ us hl => match us, hl with | [_], _ => rfl) s [u] rfl, K05.law_pure, fun base _ _ => K05.ok_law T⟩

end
