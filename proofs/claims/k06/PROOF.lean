import PyProof.Rows.All
import Wide.All
import OpenK.AllK
import Wide.FinOn
import HandS.ForMost
import HandS.Exc
import HandS.Defaults
import HandS.WordsExc
import HandS.Lambda
import HandS.SetBool
import HandS.DictComp
import HandS.TupAny
import HandS.TupMul
import HandS.Deep
import HandS.Star
import HandS.Small
import HandS.IsInst
import HandS.Text
import HandS.Zip
import HandS.HeadEnd
import HandS.HeadHook2
import KE.DataMinMax
import PyProof.StrLawsRepr
import PyProof.Rows.StrJoinMade
import PyProof.Rows.StrDigitsNeg
import KE.SortData
import KE.DataCmp
import HandS.Strs
import HandS.Style
import HandS.RevTup
import HandS.Conv
import PySem.Challenge.RW_mixedlevels_k06_whole_arrows
import KE.KStateDown
import HandS.Head0
import HandS.Head1
import HandS.Head2
import HandS.HeadHook1
set_option Elab.async false
set_option linter.all false
set_option maxRecDepth 100000
section
/-! Values, a store, outcomes; what stands for them in the heap; readings by functions. -/
namespace MX
open PySem PySem.Spec PyProof.Rows L2

/-! ### the plain side -/
/-- a plain value: tuples and lists that nobody changes any more by their items; what is changed by its number in the store -/
inductive PV where
  | non | bl (b : Bool) | int (i : Int) | str (x : Str)
  | tup (xs : List PV) | lst (xs : List PV) | ref (n : Nat)
inductive SO where
  | lst (xs : List PV) | dct (kvs : List (Key × PV)) | dcu (kvs : List (PV × PV)) | ins (c : Str) (fs : List (Str × PV)) | dead
structure EX where
  cls : Str
  fs : List (Str × PV)
abbrev Sl := List (Option PV)
abbrev Sto := List SO
inductive Out (α : Type) where
  | ok (a : α) (S : Sto) | exc (x : EX) (S : Sto) | stuck
@[reducible] def Out.bind {α β : Type} (o : Out α) (f : α → Sto → Out β) : Out β := match o with
  | .ok a S => f a S
  | .exc x S => .exc x S
  | .stuck => .stuck
inductive SOut where
  | nx (sp : Sl) (S : Sto) | rt (v : PV) (S : Sto) | bk (sp : Sl) (S : Sto) | ct (sp : Sl) (S : Sto) | exc (x : EX) (sp : Sl) (S : Sto) | stuck
/-- an expression, a test, an argument list, a statement -/
abbrev Sx := Sl → Sto → Out PV
abbrev St' := Sl → Sto → Out Bool
abbrev Sa := Sl → Sto → Out (List PV)
abbrev Ss := Sl → Sto → SOut

/-! ### what stands for it -/
/-- the module's names, the program, its world -/
structure MP where
  mg : Str → Option Value
  P : Program
  w : World
abbrev _root_.L2.Cx.mp (X : Cx) : MP := ⟨X.mg, X.prog, X.w⟩
/-- fz: what stays as it is for ever; m: where the things of the store stand; rs: what somebody keeps for himself for a while; tb: the tables of code objects -/
structure Gh where
  fz : Hp
  m : List Addr
  rs : Hp
  tb : List (Addr × Str)
structure Gh.le (g g' : Gh) : Prop where
  fz : ∀ a o, g.fz a = some o → g'.fz a = some o
  m : ∀ (i : Nat) (a : Addr), g.m[i]? = some a → g'.m[i]? = some a
  rs : g'.rs = g.rs
  tb : g'.tb = g.tb
theorem Gh.le.refl (g : Gh) : g.le g := ⟨fun _ _ h => h, fun _ _ h => h, rfl, rfl⟩
theorem Gh.le.trans {g g1 g2 : Gh} (a : g.le g1) (b : g1.le g2) : g.le g2 := ⟨fun x o h => b.fz x o (a.fz x o h), fun i x h => b.m i x (a.m i x h), b.rs.trans a.rs, b.tb.trans a.tb⟩
/-- values do not lean on rs, tb -/
structure Gh.lv (g g' : Gh) : Prop where
  fz : ∀ a o, g.fz a = some o → g'.fz a = some o
  m : ∀ (i : Nat) (a : Addr), g.m[i]? = some a → g'.m[i]? = some a
theorem Gh.le.lv {g g' : Gh} (l : g.le g') : g.lv g' := ⟨l.fz, l.m⟩
theorem Gh.lv.refl (g : Gh) : g.lv g := ⟨fun _ _ h => h, fun _ _ h => h⟩
theorem Gh.lv.trans {g g1 g2 : Gh} (a : g.lv g1) (b : g1.lv g2) : g.lv g2 := ⟨fun x o h => b.fz x o (a.fz x o h), fun i x h => b.m i x (a.m i x h)⟩
/-- what stands at a is no table, no code object -/
def NoTab (a : Addr) (u : HO) : Prop := (∀ ps, u ≠ .tbl ps) ∧ ∀ q, u ≠ LamX.CodeO a q
theorem noTab_lst {a : Addr} {xs : List V} : NoTab a (.lst xs) := ⟨fun _ z => (by cases z), fun _ z => (by cases z)⟩
theorem tabS_upd {H : Hp} {P a : Addr} {q : Str} {o : HO} (t : LamX.TabS H P q) (h : ∀ u, H a = some u → NoTab a u) : LamX.TabS (upd H a o) P q := by
  obtain ⟨ps, h1, h2, h3⟩ := t
  refine ⟨ps, ?_, h2, fun pos cv hc => ?_⟩
  · rw [upd_ne (fun e => by subst e; exact (h _ h1).1 ps rfl)]; exact h1
  · obtain ⟨c, e1, e2⟩ := h3 pos cv hc
    refine ⟨c, e1, ?_⟩
    rw [upd_ne (fun e => by subst e; exact (h _ e2).2 q rfl)]; exact e2

theorem Rd.mono {F F' : Hp} (h : ∀ a o, F a = some o → F' a = some o) {a : Addr} {u : HO} (r : Rd F a u) : Rd F' a u := by
  rcases r with r | ⟨o, r⟩
  · exact .inl (h _ _ r)
  · exact .inr ⟨o, h _ _ r⟩
theorem SqT.mono {K : PySem.W.Frag} {F F' : Hp} (h : ∀ a o, F a = some o → F' a = some o) {a : Addr} {xs : List V} (r : SqT K F a xs) : SqT K F' a xs := by
  rcases r with r | r
  · exact .inl (Rd.mono h r)
  · exact .inr r
theorem SqL.mono {K : PySem.W.Frag} {F F' : Hp} (h : ∀ a o, F a = some o → F' a = some o) {a : Addr} {xs : List V} (r : SqL K F a xs) : SqL K F' a xs := by
  rcases r with r | r
  · exact .inl (Rd.mono h r)
  · exact .inr r

/-- a list that is read, by its very object -/
def LsQ (K : PySem.W.Frag) (F : Hp) (a : Addr) (xs : List V) : Prop := Rd F a (.lst xs) ∨ ∃ (its : List Value) (n : Nat), K.lookup a = some { cls := .type "list", data := .seq its.toArray n } ∧ xs.length ≤ sizeLine ∧ Vals xs its
theorem LsQ.mono {K : PySem.W.Frag} {F F' : Hp} (h : ∀ a o, F a = some o → F' a = some o) {a : Addr} {xs : List V} (r : LsQ K F a xs) : LsQ K F' a xs := by
  rcases r with r | r
  · exact .inl (Rd.mono h r)
  · exact .inr r
theorem LsQ.sq {K : PySem.W.Frag} {F : Hp} {a : Addr} {xs : List V} (r : LsQ K F a xs) : SqL K F a xs := by
  rcases r with r | ⟨its, n, e, z, v⟩
  · exact .inl r
  · exact .inr ⟨_, its.toArray, n, e, rfl, rfl, rfl, by rw [List.size_toArray, ← v.length]; exact z, by simpa using v⟩
theorem LsQ.obj {X : Cx} {pins : List (Addr × Obj)} {σ : L2.St} {H : Hp} {s : Shared} {a : Addr} {xs : List V} (I : Inv X pins σ H s) (r : LsQ X.K H a xs) :
    ∃ (its : List Value) (n : Nat), xs.length ≤ sizeLine ∧ Vals xs its ∧ s.heap.get? a = some { cls := .type "list", data := .seq its.toArray n } := by
  rcases r with r | ⟨its, n, e, z, v⟩
  · obtain ⟨z, its, n, v, e⟩ := r.ok I.hok
    exact ⟨its, n, z, v, e⟩
  · exact ⟨its, n, z, v, I.kIn a _ e⟩

mutual
def RepV (K : PySem.W.Frag) (g : Gh) : PV → V → Prop
  | .non, v => v = .non
  | .bl b, v => v = .bl b
  | .int i, v => v = .int i
  | .str x, v => v = .str x
  | .tup xs, v => ∃ a vs, v = .ref a ∧ SqT K g.fz a vs ∧ RepVs K g xs vs
  | .lst xs, v => ∃ a vs, v = .ref a ∧ LsQ K g.fz a vs ∧ RepVs K g xs vs
  | .ref n, v => ∃ a, v = .ref a ∧ g.m[n]? = some a
def RepVs (K : PySem.W.Frag) (g : Gh) : List PV → List V → Prop
  | [], vs => vs = []
  | x :: xs, vs => ∃ v r, vs = v :: r ∧ RepV K g x v ∧ RepVs K g xs r
end
section
variable {K : PySem.W.Frag} {g g' : Gh}
mutual
theorem RepV.monoV (l : g.lv g') : ∀ (x : PV) (v : V), RepV K g x v → RepV K g' x v
  | .non, _, h => h
  | .bl _, _, h => h
  | .int _, _, h => h
  | .str _, _, h => h
  | .tup xs, _, h => by
    obtain ⟨a, vs, e, h1, h2⟩ := h
    exact ⟨a, vs, e, SqT.mono l.fz h1, RepVs.monoV l xs vs h2⟩
  | .lst xs, _, h => by
    obtain ⟨a, vs, e, h1, h2⟩ := h
    exact ⟨a, vs, e, LsQ.mono l.fz h1, RepVs.monoV l xs vs h2⟩
  | .ref n, _, h => by
    obtain ⟨a, e, h1⟩ := h
    exact ⟨a, e, l.m _ _ h1⟩
theorem RepVs.monoV (l : g.lv g') : ∀ (xs : List PV) (vs : List V), RepVs K g xs vs → RepVs K g' xs vs
  | [], _, h => h
  | x :: xs, _, h => by
    obtain ⟨v, r, e, h1, h2⟩ := h
    exact ⟨v, r, e, RepV.monoV l x v h1, RepVs.monoV l xs r h2⟩
end
theorem RepV.mono (l : g.le g') (x : PV) (v : V) (h : RepV K g x v) : RepV K g' x v := RepV.monoV l.lv x v h
theorem RepVs.mono (l : g.le g') (xs : List PV) (vs : List V) (h : RepVs K g xs vs) : RepVs K g' xs vs := RepVs.monoV l.lv xs vs h
theorem RepVs.nil : RepVs K g [] [] := rfl
theorem RepVs.cons {x : PV} {v : V} {xs : List PV} {vs : List V} (h : RepV K g x v) (t : RepVs K g xs vs) : RepVs K g (x :: xs) (v :: vs) := ⟨v, vs, rfl, h, t⟩
theorem RepVs.length : ∀ {xs : List PV} {vs : List V}, RepVs K g xs vs → xs.length = vs.length
  | [], _, h => by cases (show _ = [] from h); rfl
  | x :: xs, _, h => by
    obtain ⟨v, r, e, h1, h2⟩ := h
    subst e
    exact congrArg Nat.succ (RepVs.length h2)
theorem RepVs.get : ∀ {xs : List PV} {vs : List V} {i : Nat} {x : PV}, RepVs K g xs vs → xs[i]? = some x → ∃ v, vs[i]? = some v ∧ RepV K g x v
  | [], _, _, _, _, e => by simp at e
  | y :: ys, _, 0, x, h, e => by
    obtain ⟨v, r, e', h1, h2⟩ := h
    subst e'
    simp at e; subst e
    exact ⟨v, rfl, h1⟩
  | y :: ys, _, i + 1, x, h, e => by
    obtain ⟨v, r, e', h1, h2⟩ := h
    subst e'
    obtain ⟨u, q1, q2⟩ := RepVs.get (i := i) (x := x) h2 (by simpa using e)
    exact ⟨u, by simpa using q1, q2⟩
theorem RepVs.get' : ∀ {xs : List PV} {vs : List V} {i : Nat} {v : V}, RepVs K g xs vs → vs[i]? = some v → ∃ x, xs[i]? = some x ∧ RepV K g x v := fun {xs vs i v} h e => by
  have hl := h.length
  have hi : i < xs.length := by
    rw [hl]; exact (List.getElem?_eq_some_iff.mp e).1
  obtain ⟨u, q1, q2⟩ := h.get (i := i) (x := xs[i]) (by simp [hi])
  rw [e] at q1; cases q1
  exact ⟨xs[i], by simp [hi], q2⟩
theorem RepVs.append : ∀ {xs ys : List PV} {vs ws : List V}, RepVs K g xs vs → RepVs K g ys ws → RepVs K g (xs ++ ys) (vs ++ ws)
  | [], _, _, _, h, h' => by cases (show _ = [] from h); exact h'
  | x :: xs, _, _, _, h, h' => by
    obtain ⟨v, r, e, h1, h2⟩ := h
    subst e
    exact .cons h1 (RepVs.append h2 h')
theorem RepVs.take : ∀ (n : Nat) {xs : List PV} {vs : List V}, RepVs K g xs vs → RepVs K g (xs.take n) (vs.take n)
  | 0, _, _, _ => by simp only [List.take_zero]; exact .nil
  | n + 1, [], _, h => by cases (show _ = [] from h); exact .nil
  | n + 1, x :: xs, _, h => by
    obtain ⟨v, r, e, h1, h2⟩ := h
    subst e
    exact .cons h1 (RepVs.take n h2)
theorem RepVs.drop : ∀ (n : Nat) {xs : List PV} {vs : List V}, RepVs K g xs vs → RepVs K g (xs.drop n) (vs.drop n)
  | 0, _, _, h => h
  | n + 1, [], _, h => by cases (show _ = [] from h); exact .nil
  | n + 1, x :: xs, _, h => by
    obtain ⟨v, r, e, h1, h2⟩ := h
    subst e
    exact RepVs.drop n h2
theorem RepVs.set {x : PV} {v : V} (h : RepV K g x v) : ∀ (i : Nat) {xs : List PV} {vs : List V}, RepVs K g xs vs → RepVs K g (xs.set i x) (vs.set i v)
  | _, [], _, h' => by cases (show _ = [] from h'); exact .nil
  | 0, y :: ys, _, h' => by
    obtain ⟨u, r, e, h1, h2⟩ := h'
    subst e
    exact .cons h h2
  | i + 1, y :: ys, _, h' => by
    obtain ⟨u, r, e, h1, h2⟩ := h'
    subst e
    exact .cons h1 (RepVs.set h i h2)
theorem RepVs.reverse : ∀ {xs : List PV} {vs : List V}, RepVs K g xs vs → RepVs K g xs.reverse vs.reverse
  | [], _, h => by cases (show _ = [] from h); exact .nil
  | x :: xs, _, h => by
    obtain ⟨u, r, e, h1, h2⟩ := h
    subst e
    rw [List.reverse_cons, List.reverse_cons]
    exact RepVs.append (RepVs.reverse h2) (.cons h1 .nil)
theorem RepVs.cut {xs : List PV} {vs : List V} (h : RepVs K g xs vs) (lo hi : Option Int) :
    RepVs K g ((xs.drop (HT.sIx xs.length 0 lo)).take (HT.sIx xs.length xs.length hi - HT.sIx xs.length 0 lo)) (cutV vs lo hi) := by
  unfold cutV
  rw [← h.length]
  exact (h.drop _).take _
end

/-! ### dicts whose keys are rows of ints, texts, truth values -/
def uIs : Key → Value → Bool
  | .inl k, v => Value.isInt k v || (match v with
    | .bool b => decide (PpSet.b2 b = k)
    | _ => false)
  | .inr x, v => Value.isStrOf x v
theorem uIs_shape {k : Key} {v : Value} (h : uIs k v = true) : (∃ i t, k = .inl i ∧ v = .int i t) ∨ (∃ b, k = .inl (PpSet.b2 b) ∧ v = .bool b) ∨ ∃ x t, k = .inr x ∧ v = .str x t := by
  cases k with
  | inl i =>
    simp only [uIs, Bool.or_eq_true] at h
    rcases h with h | h
    · obtain ⟨t, e⟩ := Value.isInt_shape (k := i) (v := v) h
      exact .inl ⟨i, t, rfl, e⟩
    · cases v with
      | bool b => exact .inr (.inl ⟨b, by rw [of_decide_eq_true h], rfl⟩)
      | _ => cases h
  | inr x =>
    obtain ⟨t, e⟩ := Value.isStrOf_shape (x := x) (v := v) h
    exact .inr (.inr ⟨x, t, rfl, e⟩)
theorem uIs_int (i : Int) (t : Tok) : uIs (.inl i) (.int i t) = true := by simp [uIs, Value.isInt]
theorem uIs_bool (b : Bool) : uIs (.inl (PpSet.b2 b)) (.bool b) = true := by simp [uIs]
theorem uIs_str (x : Str) (t : Tok) : uIs (.inr x) (.str x t) = true := by simp [uIs, Value.isStrOf]
theorem b2_if (b : Bool) : (if b then (1 : Int) else 0) = PpSet.b2 b := by cases b <;> rfl
def uKind (prog : Program) (w : World) : PySem.KeyKind prog w Key where
  is := uIs
  hash := keyH w
  inj := fun v a b ha hb => by
    rcases uIs_shape ha with ⟨i, t, rfl, rfl⟩ | ⟨c, rfl, rfl⟩ | ⟨x, t, rfl, rfl⟩ <;> rcases uIs_shape hb with ⟨j, u, rfl, e⟩ | ⟨d, rfl, e⟩ | ⟨y, u, rfl, e⟩ <;> first | cases e | skip
    all_goals rfl
  byValue := fun k v h => by
    rcases uIs_shape h with ⟨i, t, rfl, rfl⟩ | ⟨c, rfl, rfl⟩ | ⟨x, t, rfl, rfl⟩ <;> rfl
  pyHash := fun hv h => by
    rcases uIs_shape hv with ⟨i, t, rfl, rfl⟩ | ⟨c, rfl, rfl⟩ | ⟨x, t, rfl, rfl⟩
    · exact wpAny_pyHash_int h
    · exact PpSet.pyHash_bool h
    · exact wpAny_pyHash_str h
  eqBool := fun hu hv h => by
    rcases uIs_shape hu with ⟨i, t, rfl, rfl⟩ | ⟨c, rfl, rfl⟩ | ⟨x, t, rfl, rfl⟩ <;> rcases uIs_shape hv with ⟨j, u, rfl, rfl⟩ | ⟨d, rfl, rfl⟩ | ⟨y, u, rfl, rfl⟩
    · rw [key_ll] at h; exact wpAny_eqBool_int h
    · rw [key_ll] at h; exact SeqAt.EqAt.int_bool i t d _ _ _ _ (by rw [b2_if]; exact h)
    · rw [key_lr] at h; exact SeqAt.EqAt.int_str i t y u _ _ _ _ h
    · rw [key_ll] at h; exact SeqAt.EqAt.bool_int c j u _ _ _ _ (by rw [b2_if]; exact h)
    · rw [key_ll] at h; exact SeqAt.EqAt.bool_bool c d _ _ _ _ (by cases c <;> cases d <;> exact h)
    · rw [key_lr] at h; exact SeqAt.EqAt.bool_str c y u _ _ _ _ h
    · rw [key_rl] at h; exact SeqAt.EqAt.str_int x t j u _ _ _ _ h
    · rw [key_rl] at h; exact SeqAt.EqAt.str_bool x t d _ _ _ _ h
    · rw [key_rr] at h; exact wpAny_eqBool_str h
  «strs» := fun k x t v h => by
    rcases uIs_shape h with ⟨i, u, rfl, e⟩ | ⟨c, rfl, e⟩ | ⟨y, u, rfl, e⟩
    · exact nomatch e
    · exact nomatch e
    · injection e with e1 _
      subst e1
      cases v <;> rfl
/-- the dict at a, its entries by key, the key's place, the value -/
def UD (P : Program) (w : World) (a : Addr) (xs : List (List Key × Addr × Value)) : HO :=
  .ext fun h => ∃ o es ep, h.get? a = some o ∧ o.ExactDict ∧ o.data = .dict es ep ∧ es.toList = xs.map (entryOfKey (tupleKind (uKind P w))) ∧ (xs.map (·.1)).Nodup
theorem noTab_UD {P : Program} {w : World} {a : Addr} {xs : List (List Key × Addr × Value)} : NoTab a (UD P w a xs) := by
  refine ⟨fun _ z => (by cases z), fun q z => ?_⟩
  have e := congrFun (HO.ext.inj z) (⟨(Array.replicate (a + 1) { cls := .none, data := .fields #[.none, .str q 0] } : Array Obj), {}⟩ : Heap)
  have g : (⟨(Array.replicate (a + 1) { cls := .none, data := .fields #[.none, .str q 0] } : Array Obj), {}⟩ : Heap).get? a = some { cls := .none, data := .fields #[.none, .str q 0] } := by
    unfold Heap.get?
    simp
  have r : ∃ (oc : Obj) (vs : Array Value) (t : Tok), (⟨(Array.replicate (a + 1) { cls := .none, data := .fields #[.none, .str q 0] } : Array Obj), {}⟩ : Heap).get? a = some oc ∧ oc.data = .fields vs ∧ vs[1]? = some (.str q t) := ⟨_, _, _, g, rfl, rfl⟩
  obtain ⟨o, es, ep, h1, h2, h3, _⟩ := e.mpr r
  rw [g] at h1
  cases h1
  cases h3
def atomK : PV → Option Key
  | .int i => some (.inl i)
  | .bl b => some (.inl (PpSet.b2 b))
  | .str x => some (.inr x)
  | _ => none
def atomsK : List PV → Option (List Key)
  | [] => some []
  | x :: xs => match atomK x with
    | none => none
    | some k => (atomsK xs).map (k :: ·)
def ukey : PV → Option (List Key)
  | .tup xs => atomsK xs
  | _ => none
abbrev RepU (K : PySem.W.Frag) (g : Gh) : List (PV × PV) → List (List Key × Addr × Value) → Prop := Paired fun p q => ukey p.1 = some q.1 ∧ RepV K g p.1 (.ref q.2.1) ∧ ∃ v, RelV v q.2.2 ∧ RepV K g p.2 v

abbrev RepF (K : PySem.W.Frag) (g : Gh) : List (Str × PV) → List (Str × V) → Prop := Paired fun p q => p.1 = q.1 ∧ RepV K g p.2 q.2
abbrev RepKV (K : PySem.W.Frag) (g : Gh) : List (Key × PV) → List (Key × V) → Prop := Paired fun p q => p.1 = q.1 ∧ RepV K g p.2 q.2
def RepO (K : PySem.W.Frag) (mg : MP) (g : Gh) (H : Hp) : SO → Addr → Prop
  | .lst xs, a => ∃ vs, H a = some (.lst vs) ∧ RepVs K g xs vs
  | .dct kvs, a => ∃ ws, H a = some (.dK ws) ∧ RepKV K g kvs ws
  | .dcu kvs, a => ∃ xs, H a = some (UD mg.P mg.w a xs) ∧ (a == sysModules) = false ∧ RepU K g kvs xs
  | .ins c fs, a => ∃ C dx ws, mg.mg c = some (.ref C) ∧ H a = some (.ins C dx ws) ∧ RepF K g fs ws
  | .dead, _ => True
structure RepS (K : PySem.W.Frag) (mg : MP) (g : Gh) (S : Sto) (H : Hp) : Prop where
  fz : ∀ a o, g.fz a = some o → H a = some o
  len : g.m.length = S.length
  ob : ∀ (i : Nat) (so : SO) (a : Addr), S[i]? = some so → g.m[i]? = some a → RepO K mg g H so a
  nofz : ∀ (i : Nat) (so : SO) (a : Addr), S[i]? = some so → so ≠ .dead → g.m[i]? = some a → g.fz a = none
  inj : ∀ (i j : Nat) (so so' : SO) (a : Addr), S[i]? = some so → so ≠ .dead → S[j]? = some so' → so' ≠ .dead → g.m[i]? = some a → g.m[j]? = some a → i = j
  rs : ∀ a o, g.rs a = some o → H a = some o ∧ g.fz a = none ∧ ∀ (i : Nat) (so : SO), S[i]? = some so → so ≠ .dead → g.m[i]? ≠ some a
  tb : ∀ p ∈ g.tb, LamX.TabS H p.1 p.2
structure RepE (K : PySem.W.Frag) (g : Gh) (sp : Sl) (σ : L2.St) : Prop where
  len : sp.length = σ.length
  get : ∀ (i : Nat) (x : PV), sp[i]? = some (some x) → ∃ v, σ[i]? = some (some v) ∧ RepV K g x v
def RepX (K : PySem.W.Frag) (mg : MP) (g : Gh) (x : EX) (cls : Value) (d : Option Addr) (H : Hp) : Prop :=
  mg.mg x.cls = some cls ∧ ∃ dx ws, d = some dx ∧ H dx = some (.xd ws) ∧ RepF K g x.fs ws

section
variable {K : PySem.W.Frag} {mg : MP} {g g' : Gh} {S : Sto} {H : Hp} {sp : Sl} {σ : L2.St}
theorem RepF.monoV (l : g.lv g') {xs : List (Str × PV)} {ws : List (Str × V)} (h : RepF K g xs ws) : RepF K g' xs ws := Paired.mapP h fun _ _ q => ⟨q.1, RepV.monoV l _ _ q.2⟩
theorem RepKV.monoV (l : g.lv g') {xs : List (Key × PV)} {ws : List (Key × V)} (h : RepKV K g xs ws) : RepKV K g' xs ws := Paired.mapP h fun _ _ q => ⟨q.1, RepV.monoV l _ _ q.2⟩
theorem RepU.monoV (l : g.lv g') {xs : List (PV × PV)} {ws : List (List Key × Addr × Value)} (h : RepU K g xs ws) : RepU K g' xs ws := Paired.mapP h fun _ _ ⟨q1, q2, v, q3, q4⟩ => ⟨q1, RepV.monoV l _ _ q2, v, q3, RepV.monoV l _ _ q4⟩
theorem RepE.monoV (l : g.lv g') (h : RepE K g sp σ) : RepE K g' sp σ := ⟨h.len, fun i x e => by
  obtain ⟨v, e1, r⟩ := h.get i x e
  exact ⟨v, e1, RepV.monoV l _ _ r⟩⟩
theorem RepE.mono (l : g.le g') (h : RepE K g sp σ) : RepE K g' sp σ := RepE.monoV l.lv h
theorem RepE.set {x : PV} {v : V} (h : RepE K g sp σ) (r : RepV K g x v) (i : Nat) : RepE K g (sp.set i (some x)) (σ.set i (some v)) := by
  refine ⟨by simp [h.len], fun j y e => ?_⟩
  by_cases hj : i = j
  · subst hj
    have hi : i < sp.length := by
      by_cases hi : i < sp.length
      · exact hi
      · rw [List.getElem?_eq_none (by simpa using hi)] at e; cases e
    rw [List.getElem?_set_self hi] at e
    cases e
    exact ⟨v, List.getElem?_set_self (by rw [← h.len]; exact hi), r⟩
  · rw [List.getElem?_set_ne hj] at e
    obtain ⟨u, e1, q⟩ := h.get j y e
    exact ⟨u, by rw [List.getElem?_set_ne hj]; exact e1, q⟩
theorem RepO.monoV (l : g.lv g') {so : SO} {a : Addr} (h : RepO K mg g H so a) : RepO K mg g' H so a := by
  cases so with
  | lst xs => obtain ⟨vs, e, r⟩ := h; exact ⟨vs, e, RepVs.monoV l _ _ r⟩
  | dct kvs => obtain ⟨ws, e, r⟩ := h; exact ⟨ws, e, RepKV.monoV l r⟩
  | dcu kvs => obtain ⟨ws, e, n, r⟩ := h; exact ⟨ws, e, n, RepU.monoV l r⟩
  | ins c fs => obtain ⟨C, dx, ws, e0, e, r⟩ := h; exact ⟨C, dx, ws, e0, e, RepF.monoV l r⟩
  | dead => trivial
theorem RepO.mono (l : g.le g') {so : SO} {a : Addr} (h : RepO K mg g H so a) : RepO K mg g' H so a := h.monoV l.lv
theorem RepO.kind {so : SO} {a : Addr} (h : RepO K mg g H so a) (n : so ≠ .dead) : ∀ u, H a = some u → NoTab a u := fun u e => by
  cases so with
  | lst xs => obtain ⟨vs, e', r⟩ := h; rw [e] at e'; cases e'; exact ⟨fun _ z => (by cases z), fun _ z => (by cases z)⟩
  | dct kvs => obtain ⟨ws, e', r⟩ := h; rw [e] at e'; cases e'; exact ⟨fun _ z => (by cases z), fun _ z => (by cases z)⟩
  | dcu kvs => obtain ⟨ws, e', r⟩ := h; rw [e] at e'; cases e'; exact noTab_UD
  | ins c fs => obtain ⟨C, dx, ws, e0, e', r⟩ := h; rw [e] at e'; cases e'; exact ⟨fun _ z => (by cases z), fun _ z => (by cases z)⟩
  | dead => exact absurd rfl n
theorem RepO.heap {H' : Hp} {so : SO} {a : Addr} (h : RepO K mg g H so a) (e : H' a = H a) : RepO K mg g H' so a := by
  cases so with
  | lst xs => obtain ⟨vs, e', r⟩ := h; exact ⟨vs, e.trans e', r⟩
  | dct kvs => obtain ⟨ws, e', r⟩ := h; exact ⟨ws, e.trans e', r⟩
  | dcu kvs => obtain ⟨ws, e', r⟩ := h; exact ⟨ws, e.trans e', r⟩
  | ins c fs => obtain ⟨C, dx, ws, e0, e', r⟩ := h; exact ⟨C, dx, ws, e0, e.trans e', r⟩
  | dead => trivial
theorem RepO.there {so : SO} {a : Addr} (h : RepO K mg g H so a) (n : so ≠ .dead) : ∃ o, H a = some o := by
  cases so with
  | lst xs => obtain ⟨vs, e', r⟩ := h; exact ⟨_, e'⟩
  | dct kvs => obtain ⟨ws, e', r⟩ := h; exact ⟨_, e'⟩
  | dcu kvs => obtain ⟨ws, e', r⟩ := h; exact ⟨_, e'⟩
  | ins c fs => obtain ⟨C, dx, ws, e0, e', r⟩ := h; exact ⟨_, e'⟩
  | dead => exact absurd rfl n
theorem dead_or (so : SO) : so = .dead ∨ so ≠ .dead := by
  cases so with
  | dead => exact .inl rfl
  | _ => exact .inr (fun h => by cases h)

/-- what is tracked stays, but for new things -/
theorem RepS.kept {H' : Hp} (h : RepS K mg g S H) (k : ∀ a o, H a = some o → H' a = some o) : RepS K mg g S H' := by
  refine ⟨fun a o e => k _ _ (h.fz a o e), h.len, fun i so a e1 e2 => ?_, h.nofz, h.inj, fun a o e => ⟨k _ _ (h.rs a o e).1, (h.rs a o e).2⟩, fun p hp => (h.tb p hp).ext k⟩
  have r := h.ob i so a e1 e2
  rcases dead_or so with z | z
  · subst z; trivial
  · obtain ⟨o, e⟩ := r.there z
    exact r.heap ((k _ _ e).trans e.symm)
theorem keep_new {p : Addr} {o : HO} (hp : H p = none) : ∀ a u, H a = some u → (upd H p o) a = some u := fun a u e => by
  rw [upd_ne (ne_of_none e hp)]; exact e
/-- a new thing that nobody will change -/
theorem RepS.froze {p : Addr} {o : HO} (h : RepS K mg g S H) (hp : H p = none) : RepS K mg ⟨upd g.fz p o, g.m, g.rs, g.tb⟩ S (upd H p o) ∧ g.le ⟨upd g.fz p o, g.m, g.rs, g.tb⟩ := by
  have gp : g.fz p = none := by
    cases e : g.fz p with
    | none => rfl
    | some u => rw [h.fz p u e] at hp; cases hp
  have l : g.le ⟨upd g.fz p o, g.m, g.rs, g.tb⟩ := ⟨fun a u e => keep_new gp a u e, fun _ _ e => e, rfl, rfl⟩
  have h' := h.kept (keep_new (o := o) hp)
  refine ⟨⟨fun a u e => ?_, h.len, fun i so a e1 e2 => (h'.ob i so a e1 e2).mono l, fun i so a e1 n e2 => ?_, h.inj, fun a u e => ?_, h'.tb⟩, l⟩
  · by_cases ha : a = p
    · subst ha
      have e' : upd g.fz a o a = some u := e
      rw [upd_same] at e' ⊢; exact e'
    · have e' : upd g.fz p o a = some u := e
      rw [upd_ne ha] at e' ⊢; exact h.fz a u e'
  · have ha : a ≠ p := by
      obtain ⟨u, e⟩ := (h.ob i so a e1 e2).there n
      exact ne_of_none e hp
    show upd g.fz p o a = none
    rw [upd_ne ha]
    exact h.nofz i so a e1 n e2
  · obtain ⟨q1, q2, q3⟩ := h.rs a u e
    have ha : a ≠ p := ne_of_none q1 hp
    refine ⟨keep_new hp a u q1, ?_, q3⟩
    show upd g.fz p o a = none
    rw [upd_ne ha]; exact q2
/-- a new thing of the store -/
theorem RepS.push {p : Addr} {o : HO} {so : SO} (h : RepS K mg g S H) (hp : H p = none) (r : RepO K mg g (upd H p o) so p) : RepS K mg ⟨g.fz, g.m ++ [p], g.rs, g.tb⟩ (S ++ [so]) (upd H p o) ∧ g.le ⟨g.fz, g.m ++ [p], g.rs, g.tb⟩ := by
  have l : g.le ⟨g.fz, g.m ++ [p], g.rs, g.tb⟩ := ⟨fun _ _ e => e, fun i a e => by
    show (g.m ++ [p])[i]? = some a
    rw [List.getElem?_append_left (List.getElem?_eq_some_iff.mp e).1]; exact e, rfl, rfl⟩
  have gp : g.fz p = none := by
    cases e : g.fz p with
    | none => rfl
    | some u => rw [h.fz p u e] at hp; cases hp
  have h' := h.kept (keep_new (o := o) hp)
  have cases_i : ∀ (i : Nat) (s1 : SO) (a : Addr), (S ++ [so])[i]? = some s1 → (g.m ++ [p])[i]? = some a → (S[i]? = some s1 ∧ g.m[i]? = some a) ∨ (i = S.length ∧ s1 = so ∧ a = p) := fun i s1 a e1 e2 => by
    by_cases hi : i < S.length
    · rw [List.getElem?_append_left hi] at e1
      rw [List.getElem?_append_left (by rw [h.len]; exact hi)] at e2
      exact .inl ⟨e1, e2⟩
    · have hi2 : i < (S ++ [so]).length := (List.getElem?_eq_some_iff.mp e1).1
      have : i = S.length := by simp at hi2; omega
      subst this
      refine .inr ⟨rfl, ?_, ?_⟩
      · simpa using e1.symm
      · rw [← h.len] at e2; simpa using e2.symm
  refine ⟨⟨fun a u e => h'.fz a u e, by simp [h.len], fun i s1 a e1 e2 => ?_, fun i s1 a e1 n e2 => ?_, fun i j s1 s2 a e1 n1 e2 n2 e3 e4 => ?_, fun a u e => ?_, h'.tb⟩, l⟩
  · rcases cases_i i s1 a e1 e2 with ⟨q1, q2⟩ | ⟨_, rfl, rfl⟩
    · exact (h'.ob i s1 a q1 q2).mono l
    · exact r.mono l
  · rcases cases_i i s1 a e1 e2 with ⟨q1, q2⟩ | ⟨_, rfl, rfl⟩
    · exact h.nofz i s1 a q1 n q2
    · exact gp
  · rcases cases_i i s1 a e1 e3 with ⟨q1, q2⟩ | ⟨rfl, rfl, rfl⟩
    · rcases cases_i j s2 a e2 e4 with ⟨q3, q4⟩ | ⟨rfl, rfl, rfl⟩
      · exact h.inj i j s1 s2 a q1 n1 q3 n2 q2 q4
      · obtain ⟨u, e⟩ := (h.ob i s1 _ q1 q2).there n1
        rw [hp] at e; cases e
    · rcases cases_i j s2 _ e2 e4 with ⟨q3, q4⟩ | ⟨rfl, rfl, _⟩
      · obtain ⟨u, e⟩ := (h.ob j s2 _ q3 q4).there n2
        rw [hp] at e; cases e
      · rfl
  · obtain ⟨q1, q2, q3⟩ := h'.rs a u e
    refine ⟨q1, q2, fun i s1 e1 n1 e2 => ?_⟩
    rcases cases_i i s1 a e1 e2 with ⟨q4, q5⟩ | ⟨_, _, e3⟩
    · exact q3 i s1 q4 n1 q5
    · subst e3
      have := (h.rs a u e).1
      rw [hp] at this; cases this
/-- a thing of the store changed -/
theorem RepS.put {n : Nat} {a : Addr} {o : HO} {so so' : SO} (h : RepS K mg g S H) (hs : S[n]? = some so) (nd : so ≠ .dead) (hm : g.m[n]? = some a) (r : RepO K mg g (upd H a o) so' a) : RepS K mg g (S.set n so') (upd H a o) := by
  have hn : n < S.length := (List.getElem?_eq_some_iff.mp hs).1
  have ci : ∀ (i : Nat) (s1 : SO), (S.set n so')[i]? = some s1 → (i = n ∧ s1 = so') ∨ (i ≠ n ∧ S[i]? = some s1) := fun i s1 e => by
    by_cases hi : n = i
    · subst hi
      rw [List.getElem?_set_self hn] at e
      exact .inl ⟨rfl, (Option.some.inj e).symm⟩
    · rw [List.getElem?_set_ne hi] at e
      exact .inr ⟨fun z => hi z.symm, e⟩
  refine ⟨fun b u e => ?_, by simp [h.len], fun i s1 b e1 e2 => ?_, fun i s1 b e1 n1 e2 => ?_, fun i j s1 s2 b e1 n1 e2 n2 e3 e4 => ?_, fun b u e => ?_, fun p hp => tabS_upd (h.tb p hp) ((h.ob n so a hs hm).kind nd)⟩
  · have hb : b ≠ a := fun z => by
      subst z
      rw [h.nofz n so b hs nd hm] at e; cases e
    rw [upd_ne hb]; exact h.fz b u e
  · rcases ci i s1 e1 with ⟨rfl, rfl⟩ | ⟨hi, q⟩
    · rw [hm] at e2; cases e2; exact r
    · rcases dead_or s1 with z | z
      · subst z; trivial
      · have hb : b ≠ a := fun e => by
          subst e
          exact hi (h.inj i n s1 so b q z hs nd e2 hm)
        exact (h.ob i s1 b q e2).heap (upd_ne hb)
  · rcases ci i s1 e1 with ⟨rfl, rfl⟩ | ⟨hi, q⟩
    · exact h.nofz i so b hs nd e2
    · exact h.nofz i s1 b q n1 e2
  · rcases ci i s1 e1 with ⟨rfl, rfl⟩ | ⟨hi, q⟩
    · rcases ci j s2 e2 with ⟨rfl, rfl⟩ | ⟨hj, q'⟩
      · rfl
      · exact h.inj i j so s2 b hs nd q' n2 e3 e4
    · rcases ci j s2 e2 with ⟨rfl, rfl⟩ | ⟨hj, q'⟩
      · exact h.inj i j s1 so b q n1 hs nd e3 e4
      · exact h.inj i j s1 s2 b q n1 q' n2 e3 e4
  · obtain ⟨q1, q2, q3⟩ := h.rs b u e
    have hb : b ≠ a := fun z => by subst z; exact q3 n so hs nd hm
    refine ⟨by rw [upd_ne hb]; exact q1, q2, fun i s1 e1 n1 e2 => ?_⟩
    rcases ci i s1 e1 with ⟨rfl, rfl⟩ | ⟨hi, q⟩
    · exact q3 i so hs nd e2
    · exact q3 i s1 q n1 e2
/-- a new thing kept for oneself -/
theorem RepS.reserve {p : Addr} {o : HO} (h : RepS K mg g S H) (hp : H p = none) : RepS K mg { g with rs := upd g.rs p o } S (upd H p o) := by
  have gp : g.fz p = none := by
    cases e : g.fz p with
    | none => rfl
    | some u => rw [h.fz p u e] at hp; cases hp
  have h' := h.kept (keep_new (o := o) hp)
  have l : g.lv { g with rs := upd g.rs p o } := ⟨fun _ _ e => e, fun _ _ e => e⟩
  refine ⟨h'.fz, h.len, fun i so a e1 e2 => (h'.ob i so a e1 e2).monoV l, h.nofz, h.inj, fun a u e => ?_, h'.tb⟩
  by_cases ha : a = p
  · subst ha
    have e' : upd g.rs a o a = some u := e
    rw [upd_same] at e' ⊢
    refine ⟨e', gp, fun i so e1 n e2 => ?_⟩
    obtain ⟨z, q⟩ := (h.ob i so a e1 e2).there n
    rw [hp] at q; cases q
  · have e' : upd g.rs p o a = some u := e
    rw [upd_ne ha] at e'
    exact h'.rs a u e'
/-- .. changed -/
theorem RepS.rekeep {p : Addr} {o o' : HO} (h : RepS K mg g S H) (hp : g.rs p = some o) (ho : NoTab p o) : RepS K mg { g with rs := upd g.rs p o' } S (upd H p o') := by
  obtain ⟨q1, q2, q3⟩ := h.rs p o hp
  have l : g.lv { g with rs := upd g.rs p o' } := ⟨fun _ _ e => e, fun _ _ e => e⟩
  refine ⟨fun a u e => ?_, h.len, fun i so a e1 e2 => ?_, h.nofz, h.inj, fun a u e => ?_, fun q hq => tabS_upd (h.tb q hq) (fun u e => by rw [q1] at e; cases e; exact ho)⟩
  · have ha : a ≠ p := fun z => by subst z; have e' : g.fz a = some u := e; rw [q2] at e'; cases e'
    rw [upd_ne ha]; exact h.fz a u e
  · rcases dead_or so with z | z
    · subst z; trivial
    · have ha : a ≠ p := fun e => by subst e; exact q3 i so e1 z e2
      exact ((h.ob i so a e1 e2).heap (upd_ne ha)).monoV l
  · by_cases ha : a = p
    · subst ha
      have e' : upd g.rs a o' a = some u := e
      rw [upd_same] at e' ⊢
      exact ⟨e', q2, q3⟩
    · have e' : upd g.rs p o' a = some u := e
      rw [upd_ne ha] at e' ⊢
      exact h.rs a u e'
/-- .. let go, to stay as it is -/
theorem RepS.letGo {p : Addr} {o : HO} {r0 : Hp} (h : RepS K mg g S H) (hp : g.rs p = some o) (h0 : ∀ a u, r0 a = some u → a ≠ p ∧ g.rs a = some u) : RepS K mg ⟨upd g.fz p o, g.m, r0, g.tb⟩ S H ∧ g.lv ⟨upd g.fz p o, g.m, r0, g.tb⟩ := by
  obtain ⟨q1, q2, q3⟩ := h.rs p o hp
  have l : g.lv ⟨upd g.fz p o, g.m, r0, g.tb⟩ := ⟨fun a u e => by
    show upd g.fz p o a = some u
    rw [upd_ne (fun z => by subst z; rw [q2] at e; cases e)]; exact e, fun _ _ e => e⟩
  refine ⟨⟨fun a u e => ?_, h.len, fun i so a e1 e2 => (h.ob i so a e1 e2).monoV l, fun i so a e1 n e2 => ?_, h.inj, fun a u e => ?_, h.tb⟩, l⟩
  · by_cases ha : a = p
    · subst ha
      have e' : upd g.fz a o a = some u := e
      rw [upd_same] at e'; cases e'; exact q1
    · have e' : upd g.fz p o a = some u := e
      rw [upd_ne ha] at e'
      exact h.fz a u e'
  · show upd g.fz p o a = none
    rw [upd_ne (fun z => by subst z; exact q3 i so e1 n e2)]
    exact h.nofz i so a e1 n e2
  · obtain ⟨n1, n2⟩ := h0 a u e
    obtain ⟨k1, k2, k3⟩ := h.rs a u n2
    refine ⟨k1, ?_, k3⟩
    show upd g.fz p o a = none
    rw [upd_ne n1]; exact k2
/-- .. let go, into the store -/
theorem RepS.letIn {p : Addr} {o : HO} {so : SO} {r0 : Hp} (h : RepS K mg g S H) (hp : g.rs p = some o) (h0 : ∀ a u, r0 a = some u → a ≠ p ∧ g.rs a = some u) (r : RepO K mg g H so p) : RepS K mg ⟨g.fz, g.m ++ [p], r0, g.tb⟩ (S ++ [so]) H ∧ g.lv ⟨g.fz, g.m ++ [p], r0, g.tb⟩ := by
  obtain ⟨q1, q2, q3⟩ := h.rs p o hp
  have l : g.lv ⟨g.fz, g.m ++ [p], r0, g.tb⟩ := ⟨fun _ _ e => e, fun i a e => by
    show (g.m ++ [p])[i]? = some a
    rw [List.getElem?_append_left (List.getElem?_eq_some_iff.mp e).1]; exact e⟩
  have cases_i : ∀ (i : Nat) (s1 : SO) (a : Addr), (S ++ [so])[i]? = some s1 → (g.m ++ [p])[i]? = some a → (S[i]? = some s1 ∧ g.m[i]? = some a) ∨ (i = S.length ∧ s1 = so ∧ a = p) := fun i s1 a e1 e2 => by
    by_cases hi : i < S.length
    · rw [List.getElem?_append_left hi] at e1
      rw [List.getElem?_append_left (by rw [h.len]; exact hi)] at e2
      exact .inl ⟨e1, e2⟩
    · have hi2 : i < (S ++ [so]).length := (List.getElem?_eq_some_iff.mp e1).1
      have : i = S.length := by simp at hi2; omega
      subst this
      refine .inr ⟨rfl, ?_, ?_⟩
      · simpa using e1.symm
      · rw [← h.len] at e2; simpa using e2.symm
  refine ⟨⟨h.fz, by simp [h.len], fun i s1 a e1 e2 => ?_, fun i s1 a e1 n e2 => ?_, fun i j s1 s2 a e1 n1 e2 n2 e3 e4 => ?_, fun a u e => ?_, h.tb⟩, l⟩
  · rcases cases_i i s1 a e1 e2 with ⟨k1, k2⟩ | ⟨_, rfl, rfl⟩
    · exact (h.ob i s1 a k1 k2).monoV l
    · exact r.monoV l
  · rcases cases_i i s1 a e1 e2 with ⟨k1, k2⟩ | ⟨_, rfl, rfl⟩
    · exact h.nofz i s1 a k1 n k2
    · exact q2
  · rcases cases_i i s1 a e1 e3 with ⟨k1, k2⟩ | ⟨rfl, rfl, rfl⟩
    · rcases cases_i j s2 a e2 e4 with ⟨k3, k4⟩ | ⟨rfl, rfl, rfl⟩
      · exact h.inj i j s1 s2 a k1 n1 k3 n2 k2 k4
      · exact absurd k2 (q3 i s1 k1 n1)
    · rcases cases_i j s2 _ e2 e4 with ⟨k3, k4⟩ | ⟨rfl, rfl, _⟩
      · exact absurd k4 (q3 j s2 k3 n2)
      · rfl
  · obtain ⟨n1, n2⟩ := h0 a u e
    obtain ⟨k1, k2, k3⟩ := h.rs a u n2
    refine ⟨k1, k2, fun i s1 e1 n e2 => ?_⟩
    rcases cases_i i s1 a e1 e2 with ⟨k4, k5⟩ | ⟨_, _, e3⟩
    · exact k3 i s1 k4 n k5
    · exact n1 e3
theorem RepS.at_ {n : Nat} {a : Addr} (h : RepS K mg g S H) (hm : g.m[n]? = some a) : ∃ so, S[n]? = some so := by
  have hn : n < g.m.length := (List.getElem?_eq_some_iff.mp hm).1
  rw [h.len] at hn
  exact ⟨S[n], by simp [hn]⟩
theorem RepS.addr {n : Nat} {so : SO} (h : RepS K mg g S H) (e : S[n]? = some so) : ∃ a, g.m[n]? = some a := by
  have hn : n < S.length := (List.getElem?_eq_some_iff.mp e).1
  rw [← h.len] at hn
  exact ⟨g.m[n], by simp [hn]⟩
end

/-! ### readings -/
section
variable (X : Cx)
/-- behind an outcome: E takes an exception -/
def Post {α β : Type} (g : Gh) (R : Gh → α → β → Prop) (E : EX → Sto → Prop) (o : Out α) (Q : β → Hp → Prop) : Prop := match o with
  | .ok a S => ∀ b H g', g.le g' → RepS X.K X.mp g' S H → R g' a b → Q b H
  | .exc x S => E x S
  | .stuck => False
def WishX (g : Gh) (sp : Sl) (x : EX) (S : Sto) : WX := fun cls d σ H => ∃ g', g.le g' ∧ RepS X.K X.mp g' S H ∧ RepE X.K g' sp σ ∧ RepX X.K X.mp g' x cls d H
def ExcT (g : Gh) (sp : Sl) (x : EX) (S : Sto) : Prop := Takes X (WishX X g sp x S)
theorem ExcT.mono {X : Cx} {g g' : Gh} {sp : Sl} {x : EX} {S : Sto} (t : ExcT X g sp x S) (l : g.le g') : ExcT X g' sp x S :=
  Takes.imp t fun _ _ _ _ ⟨g2, l2, h⟩ => ⟨g2, l.trans l2, h⟩
def rdE (t : Sx) : TE := fun σ H Q => ∃ g sp S, RepS X.K X.mp g S H ∧ RepE X.K g sp σ ∧ Post X g (RepV X.K) (ExcT X g sp) (t sp S) Q
def rdT (t : St') : TT := fun σ H Q => ∃ g sp S, RepS X.K X.mp g S H ∧ RepE X.K g sp σ ∧ Post X g (fun _ a b => a = b) (ExcT X g sp) (t sp S) Q
def rdA (t : Sa) : TA := fun σ H Q => ∃ g sp S, RepS X.K X.mp g S H ∧ RepE X.K g sp σ ∧ Post X g (RepVs X.K) (ExcT X g sp) (t sp S) Q
def PostS (g : Gh) (o : SOut) (D : Ends) : Prop := match o with
  | .nx sp S => ∀ σ H g', g.le g' → RepS X.K X.mp g' S H → RepE X.K g' sp σ → D.nx σ H
  | .rt x S => ∀ v H g', g.le g' → RepS X.K X.mp g' S H → RepV X.K g' x v → D.rt v H
  | .bk sp S => ∀ σ H g', g.le g' → RepS X.K X.mp g' S H → RepE X.K g' sp σ → D.bk σ H
  | .ct sp S => ∀ σ H g', g.le g' → RepS X.K X.mp g' S H → RepE X.K g' sp σ → D.ct σ H
  | .exc x sp S => ExcT X g sp x S
  | .stuck => False
def rdS (t : Ss) : TS := fun D σ H => ∃ g sp S, RepS X.K X.mp g S H ∧ RepE X.K g sp σ ∧ PostS X g (t sp S) D
end
section
variable {X : Cx} {α β γ δ : Type}
theorem _root_.L2.PE.imp {e : Expr} {t t' : TE} (h : PE X e t) (i : ∀ σ H Q, t' σ H Q → t σ H Q) : PE X e t' := ⟨fun pins s σ H Q I q => h.run pins s σ H Q I (i _ _ _ q)⟩
theorem _root_.L2.PT.imp {e : Expr} {t t' : TT} (h : PT X e t) (i : ∀ σ H Q, t' σ H Q → t σ H Q) : PT X e t' := ⟨fun pins s σ H Q I q => h.run pins s σ H Q I (i _ _ _ q)⟩
theorem _root_.L2.PW.imp {e : Expr} {t t' : TT} (h : PW X e t) (i : ∀ σ H Q, t' σ H Q → t σ H Q) : PW X e t' := ⟨fun wh pins s σ H Q I q => h.run wh pins s σ H Q I (i _ _ _ q)⟩
theorem _root_.L2.PA.imp {e : List Expr} {t t' : TA} (h : PA X e t) (i : ∀ σ H Q, t' σ H Q → t σ H Q) : PA X e t' := ⟨fun pos pins s σ H Q I q => h.run pos pins s σ H Q I (i _ _ _ q)⟩
theorem _root_.L2.PS.imp {e : Stmt} {t t' : TS} (h : PS X e t) (i : ∀ D σ H, t' D σ H → t D σ H) : PS X e t' := ⟨fun pins s σ H D I q => h.run pins s σ H D I (i _ _ _ q)⟩
theorem _root_.L2.PSs.imp {e : List Stmt} {t t' : TS} (h : PSs X e t) (i : ∀ D σ H, t' D σ H → t D σ H) : PSs X e t' := ⟨fun pins s σ H D I q => h.run pins s σ H D I (i _ _ _ q)⟩

theorem Post.imp {g : Gh} {R : Gh → α → β → Prop} {E E' : EX → Sto → Prop} {o : Out α} {Q Q' : β → Hp → Prop} (h : Post X g R E o Q) (hE : ∀ x S, E x S → E' x S)
    (hQ : ∀ b H, Q b H → Q' b H) : Post X g R E' o Q' := by
  cases o with
  | ok a S => exact fun b H g' l hS r => hQ b H (h b H g' l hS r)
  | exc x S => exact hE x S h
  | stuck => exact h
theorem Post.le {g g1 : Gh} {R : Gh → α → β → Prop} {E : EX → Sto → Prop} {o : Out α} {Q : β → Hp → Prop} (h : Post X g R E o Q) (l : g.le g1) : Post X g1 R E o Q := by
  cases o with
  | ok a S => exact fun b H g' l' hS r => h b H g' (l.trans l') hS r
  | exc x S => exact h
  | stuck => exact h
/-- one thing behind another -/
theorem Post.seq {g : Gh} {R : Gh → α → β → Prop} {R2 : Gh → γ → δ → Prop} {sp : Sl} {o : Out α} {f : α → Sto → Out γ} {Q : δ → Hp → Prop} (h : Post X g R2 (ExcT X g sp) (o.bind f) Q) :
    Post X g R (ExcT X g sp) o (fun b H1 => ∃ a g1 S1, g.le g1 ∧ RepS X.K X.mp g1 S1 H1 ∧ R g1 a b ∧ Post X g1 R2 (ExcT X g1 sp) (f a S1) Q) := by
  cases o with
  | ok a S => exact fun b H1 g1 l hS r => ⟨a, g1, S, l, hS, r, (Post.imp (show Post X g R2 (ExcT X g sp) (f a S) Q from h) (fun x S' t => t.mono l) fun _ _ q => q).le l⟩
  | exc x S => exact h
  | stuck => exact h
/-- the first of a row -/
theorem rdE.fst {ta : Sx} {sp : Sl} {S : Sto} {g : Gh} {σ : L2.St} {H : Hp} {R2 : Gh → γ → δ → Prop} {f : PV → Sto → Out γ} {Q : δ → Hp → Prop} (hS : RepS X.K X.mp g S H) (hE : RepE X.K g sp σ)
    (h : Post X g R2 (ExcT X g sp) ((ta sp S).bind f) Q) :
    rdE X ta σ H (fun b H1 => ∃ a g1 S1, g.le g1 ∧ RepS X.K X.mp g1 S1 H1 ∧ RepE X.K g1 sp σ ∧ RepV X.K g1 a b ∧ Post X g1 R2 (ExcT X g1 sp) (f a S1) Q) :=
  ⟨g, sp, S, hS, hE, (Post.seq h).imp (fun _ _ x => x) fun _ _ ⟨a, g1, S1, l, q1, q2, q3⟩ => ⟨a, g1, S1, l, q1, hE.mono l, q2, q3⟩⟩
theorem rdT.fst {ta : St'} {sp : Sl} {S : Sto} {g : Gh} {σ : L2.St} {H : Hp} {R2 : Gh → γ → δ → Prop} {f : Bool → Sto → Out γ} {Q : δ → Hp → Prop} (hS : RepS X.K X.mp g S H) (hE : RepE X.K g sp σ)
    (h : Post X g R2 (ExcT X g sp) ((ta sp S).bind f) Q) :
    rdT X ta σ H (fun b H1 => ∃ g1 S1, g.le g1 ∧ RepS X.K X.mp g1 S1 H1 ∧ RepE X.K g1 sp σ ∧ Post X g1 R2 (ExcT X g1 sp) (f b S1) Q) :=
  ⟨g, sp, S, hS, hE, (Post.seq h).imp (fun _ _ x => x) fun _ _ ⟨a, g1, S1, l, q1, q2, q3⟩ => ⟨g1, S1, l, q1, hE.mono l, by rw [← q2]; exact q3⟩⟩
theorem rdA.fst {ta : Sa} {sp : Sl} {S : Sto} {g : Gh} {σ : L2.St} {H : Hp} {R2 : Gh → γ → δ → Prop} {f : List PV → Sto → Out γ} {Q : δ → Hp → Prop} (hS : RepS X.K X.mp g S H) (hE : RepE X.K g sp σ)
    (h : Post X g R2 (ExcT X g sp) ((ta sp S).bind f) Q) :
    rdA X ta σ H (fun b H1 => ∃ a g1 S1, g.le g1 ∧ RepS X.K X.mp g1 S1 H1 ∧ RepE X.K g1 sp σ ∧ RepVs X.K g1 a b ∧ Post X g1 R2 (ExcT X g1 sp) (f a S1) Q) :=
  ⟨g, sp, S, hS, hE, (Post.seq h).imp (fun _ _ x => x) fun _ _ ⟨a, g1, S1, l, q1, q2, q3⟩ => ⟨a, g1, S1, l, q1, hE.mono l, q2, q3⟩⟩
/-- an outcome reached -/
theorem Post.ok {g : Gh} {R : Gh → α → β → Prop} {E : EX → Sto → Prop} {a : α} {b : β} {S : Sto} {H : Hp} {Q : β → Hp → Prop} (h : Post X g R E (.ok a S) Q) {g' : Gh} (l : g.le g') (hS : RepS X.K X.mp g' S H) (r : R g' a b) : Q b H := h b H g' l hS r
end
end MX

end

section
/-! Rules for expressions, tests, arguments, statements. -/
namespace MX
open PySem PySem.Spec PyProof.Rows L2
section
variable {X : Cx}
theorem rdE.mono {t : Sx} {σ : L2.St} {H : Hp} {Q Q' : VK} (h : rdE X t σ H Q) (i : ∀ b H, Q b H → Q' b H) : rdE X t σ H Q' := by
  obtain ⟨g, sp, S, hS, hE, p⟩ := h
  exact ⟨g, sp, S, hS, hE, p.imp (fun _ _ x => x) i⟩
theorem rdT.mono {t : St'} {σ : L2.St} {H : Hp} {Q Q' : Bool → Hp → Prop} (h : rdT X t σ H Q) (i : ∀ b H, Q b H → Q' b H) : rdT X t σ H Q' := by
  obtain ⟨g, sp, S, hS, hE, p⟩ := h
  exact ⟨g, sp, S, hS, hE, p.imp (fun _ _ x => x) i⟩
theorem rdA.mono {t : Sa} {σ : L2.St} {H : Hp} {Q Q' : List V → Hp → Prop} (h : rdA X t σ H Q) (i : ∀ b H, Q b H → Q' b H) : rdA X t σ H Q' := by
  obtain ⟨g, sp, S, hS, hE, p⟩ := h
  exact ⟨g, sp, S, hS, hE, p.imp (fun _ _ x => x) i⟩
end

/-! ### operations on values -/
abbrev V1 := PV → Sto → Option (PV × Sto)
abbrev V2 := PV → PV → Sto → Option (PV × Sto)
abbrev VN := List PV → Sto → Option (PV × Sto)
@[reducible] def Out.of {α : Type} (o : Option (α × Sto)) : Out α := match o with
  | some (a, S) => .ok a S
  | none => .stuck
section
variable (X : Cx)
def PostO {α β : Type} (g : Gh) (R : Gh → α → β → Prop) (o : Option (α × Sto)) (Q : β → Hp → Prop) : Prop := match o with
  | some (a, S) => ∀ b H g', g.le g' → RepS X.K X.mp g' S H → R g' a b → Q b H
  | none => False
def rV1 (o : V1) : V → Hp → VK → Prop := fun x H Q => ∃ g S a, RepS X.K X.mp g S H ∧ RepV X.K g a x ∧ PostO X g (RepV X.K) (o a S) Q
def rV2 (o : V2) : R2 := fun x y H Q => ∃ g S a b, RepS X.K X.mp g S H ∧ RepV X.K g a x ∧ RepV X.K g b y ∧ PostO X g (RepV X.K) (o a b S) Q
def rVN (o : VN) : List V → Hp → VK → Prop := fun xs H Q => ∃ g S as, RepS X.K X.mp g S H ∧ RepVs X.K g as xs ∧ PostO X g (RepV X.K) (o as S) Q
end
section
variable {X : Cx} {α β : Type}
theorem Post.of {g : Gh} {R : Gh → α → β → Prop} {E : EX → Sto → Prop} {o : Option (α × Sto)} {Q : β → Hp → Prop} (h : Post X g R E (.of o) Q) : PostO X g R o Q := by
  cases o with
  | none => exact h
  | some p => obtain ⟨a, S⟩ := p; exact h
theorem PostO.ok {g : Gh} {R : Gh → α → β → Prop} {a : α} {S : Sto} {Q : β → Hp → Prop} (h : PostO X g R (some (a, S)) Q) {b : β} {H : Hp} {g' : Gh} (l : g.le g') (hS : RepS X.K X.mp g' S H) (r : R g' a b) : Q b H := h b H g' l hS r
/-- the same store -/
theorem PostO.now {g : Gh} {R : Gh → α → β → Prop} {a : α} {S : Sto} {Q : β → Hp → Prop} (h : PostO X g R (some (a, S)) Q) {b : β} {H : Hp} (hS : RepS X.K X.mp g S H) (r : R g a b) : Q b H := h b H g (.refl g) hS r
/-- a new tuple -/
theorem PostO.tup {g : Gh} {xs : List PV} {vs : List V} {S : Sto} {Q : VK} {H : Hp} (h : PostO X g (RepV X.K) (some (.tup xs, S)) Q) (hS : RepS X.K X.mp g S H) (r : RepVs X.K g xs vs) : ∀ p, H p = none → Q (.ref p) (upd H p (.tup vs)) := fun p hp => by
  obtain ⟨h1, l⟩ := hS.froze (o := .tup vs) hp
  exact h _ _ _ l h1 ⟨p, vs, rfl, .inl (.inl upd_same), RepVs.mono l _ _ r⟩
/-- a new list that stays -/
theorem PostO.lst {g : Gh} {xs : List PV} {vs : List V} {S : Sto} {Q : VK} {H : Hp} (h : PostO X g (RepV X.K) (some (.lst xs, S)) Q) (hS : RepS X.K X.mp g S H) (r : RepVs X.K g xs vs) : ∀ p, H p = none → Q (.ref p) (upd H p (.lst vs)) := fun p hp => by
  obtain ⟨h1, l⟩ := hS.froze (o := .lst vs) hp
  exact h _ _ _ l h1 ⟨p, vs, rfl, .inl (.inl upd_same), RepVs.mono l _ _ r⟩
/-- a new list of the store -/
theorem PostO.new {g : Gh} {xs : List PV} {vs : List V} {S : Sto} {Q : VK} {H : Hp} (h : PostO X g (RepV X.K) (some (.ref S.length, S ++ [.lst xs])) Q) (hS : RepS X.K X.mp g S H) (r : RepVs X.K g xs vs) : ∀ p, H p = none → Q (.ref p) (upd H p (.lst vs)) := fun p hp => by
  obtain ⟨h1, l⟩ := hS.push (so := .lst xs) (o := .lst vs) hp ⟨vs, upd_same, r⟩
  exact h _ _ _ l h1 ⟨p, rfl, by show (g.m ++ [p])[S.length]? = some p; rw [← hS.len]; simp⟩
end

section
variable {X : Cx} {a b c e : Expr} {ta tb tc te : Sx} {pos : Pos} {es : List Expr} {tA tB : St'}
/-! ### names, constants -/
def sxVar (i : Nat) : Sx := fun sp S => match sp[i]? with
  | some (some v) => .ok v S
  | _ => .stuck
def sxC (v : PV) : Sx := fun _ S => .ok v S
theorem se_var (i : Nat) {x : Str} (hN : X.N[i]? = some x := by rfl) (hv : Vis X.env.scope x := by first | exact Or.inl rfl | exact Or.inr (Or.inl rfl) | exact Or.inr (Or.inr rfl)) (hd : (x == ("__debug__" : Str)) = false := by decide)
    (hcd : (x == ("__classdict__" : Str)) = false := by decide) : PE X (.Name x pos) (rdE X (sxVar i)) := by
  refine (pe_var hN hv hd hcd).imp fun σ H Q ⟨g, sp, S, hS, hE, h⟩ => ?_
  unfold sxVar at h
  split at h
  · rename_i v e
    obtain ⟨u, e1, r⟩ := hE.get i v e
    exact ⟨u, e1, h u H g (.refl g) hS r⟩
  · exact h.elim
theorem se_c {t : V} {v : PV} (h : PE X e (tC t)) (r : ∀ g, RepV X.K g v t) : PE X e (rdE X (sxC v)) := h.imp fun σ H Q ⟨g, sp, S, hS, hE, h⟩ => h t H g (.refl g) hS (r g)
theorem se_int {i j} : PE X (.Constant (.int i) j pos) (rdE X (sxC (.int i))) := se_c pe_int fun _ => rfl
theorem se_bl {b j} : PE X (.Constant (.bool b) j pos) (rdE X (sxC (.bl b))) := se_c pe_bl fun _ => rfl
theorem se_non {j} : PE X (.Constant .none j pos) (rdE X (sxC .non)) := se_c pe_non fun _ => rfl
theorem se_str {x j} : PE X (.Constant (.str x) j pos) (rdE X (sxC (.str x))) := se_c pe_str fun _ => rfl
/-- a module's constant -/
theorem se_glob {x : Str} {v : V} {u : Value} {pv : PV} (hg : Gl X x) (hm : X.mg x = some u) (r : RelV v u) (hr : ∀ g, RepV X.K g pv v) (hd : (x == ("__debug__" : Str)) = false := by decide) : PE X (.Name x pos) (rdE X (sxC pv)) := se_c (pe_glob hg hm r hd) hr

/-! ### operators -/
def sx1 (o : V1) (ta : Sx) : Sx := fun sp S => (ta sp S).bind fun a S1 => .of (o a S1)
def sx2 (o : V2) (ta tb : Sx) : Sx := fun sp S => (ta sp S).bind fun a S1 => (tb sp S1).bind fun b S2 => .of (o a b S2)
theorem rd1 {o : V1} {σ : L2.St} {H : Hp} {Q : VK} (h : rdE X (sx1 o ta) σ H Q) : rdE X ta σ H fun x H1 => rV1 X o x H1 Q := by
  obtain ⟨g, sp, S, hS, hE, p⟩ := h
  exact (rdE.fst hS hE p).mono fun x H1 ⟨a, g1, S1, l1, q1, e1, r1, p1⟩ => ⟨g1, S1, a, q1, r1, Post.of p1⟩
theorem rd2 {o : V2} {σ : L2.St} {H : Hp} {Q : VK} (h : rdE X (sx2 o ta tb) σ H Q) : tOp (rV2 X o) (rdE X ta) (rdE X tb) σ H Q := by
  obtain ⟨g, sp, S, hS, hE, p⟩ := h
  refine (rdE.fst hS hE p).mono fun x H1 ⟨a, g1, S1, l1, q1, e1, r1, p1⟩ => ?_
  refine (rdE.fst q1 e1 p1).mono fun y H2 ⟨b, g2, S2, l2, q2, e2, r2, p2⟩ => ?_
  exact ⟨g2, S2, a, b, q2, RepV.mono l2 _ _ r1, r2, Post.of p2⟩
abbrev Op2 (X : Cx) (f : Value → Value → Sem Value) (o : V2) : Prop := OpR X f (rV2 X o)
abbrev Un1 (X : Cx) (f : Value → Sem Value) (o : V1) : Prop := UnR X f (rV1 X o)
theorem se_bin {op : Operator} {o : V2} (ho : Op2 X (binaryOp op) o) (ha : PE X a (rdE X ta)) (hb : PE X b (rdE X tb)) : PE X (.BinOp a op b pos) (rdE X (sx2 o ta tb)) := (pe_op ho ha hb).imp fun _ _ _ => rd2
theorem se_un {op : UnaryOp} {o : V1} (ho : Un1 X (unaryOp op) o) (ha : PE X a (rdE X ta)) : PE X (.UnaryOp op a pos) (rdE X (sx1 o ta)) := (pe_un ho ha).imp fun _ _ _ => rd1
theorem se_cmp {op : CmpOp} {o : V2} (ho : Op2 X (compareOp op) o) (ha : PE X a (rdE X ta)) (hb : PE X b (rdE X tb)) (hm : behindInMarks op b = false := by first | exact nomark _ | rfl | with_unfolding_all rfl) : PE X (.Compare a [op] [b] pos) (rdE X (sx2 o ta tb)) := (pe_cmpR ho ha hb hm).imp fun _ _ _ => rd2
/-- a value that must be a truth value -/
def stB (t : Sx) : St' := fun sp S => (t sp S).bind fun v S1 => match v with
  | .bl b => .ok b S1
  | _ => .stuck
theorem rdB {t : Sx} {σ : L2.St} {H : Hp} {Q : Bool → Hp → Prop} (h : rdT X (stB t) σ H Q) : rdE X t σ H fun x H' => ∃ k, x = .bl k ∧ Q k H' := by
  obtain ⟨g, sp, S, hS, hE, p⟩ := h
  refine (rdE.fst hS hE p).mono fun x H1 ⟨a, g1, S1, l1, q1, e1, r1, p1⟩ => ?_
  cases a with
  | bl k => exact ⟨k, r1, p1 k H1 g1 (.refl _) q1 rfl⟩
  | _ => exact p1.elim
theorem st_cmp {op : CmpOp} {o : V2} (ho : Op2 X (compareOp op) o) (ha : PE X a (rdE X ta)) (hb : PE X b (rdE X tb)) (hm : behindInMarks op b = false := by first | exact nomark _ | rfl | with_unfolding_all rfl) : PT X (.Compare a [op] [b] pos) (rdT X (stB (sx2 o ta tb))) :=
  (pt_cmpR ho ha hb hm).imp fun _ _ _ h => (rdB h |> fun (q : rdE X (sx2 o ta tb) _ _ _) => rd2 q)
/-- an expression whose test is its value's truth, a truth value -/
theorem st_val (ha : PE X a (rdE X ta)) (he : ∀ whole, isTrue a X.env whole = (do let v ← whole; standAt a.pos; holding [v] (truthy v)) := by intro _; rfl) : PT X a (rdT X (stB ta)) :=
  (pt_val ha he).imp fun _ _ _ h => rdB h
/-- a op b op' c -/
def sxChain (o o' : V2) (ta tb tc : Sx) : Sx := fun sp S => (ta sp S).bind fun a S1 => (tb sp S1).bind fun b S2 => (Out.of (o a b S2)).bind fun z S3 => match z with
  | .bl true => (tc sp S3).bind fun c S4 => .of (o' b c S4)
  | .bl false => .ok (.bl false) S3
  | _ => .stuck
theorem Post.ofSeq {α β γ δ : Type} {g : Gh} {R : Gh → α → β → Prop} {R2 : Gh → γ → δ → Prop} {sp : Sl} {o : Option (α × Sto)} {f : α → Sto → Out γ} {Q : δ → Hp → Prop} (h : Post X g R2 (ExcT X g sp) ((Out.of o).bind f) Q) :
    PostO X g R o (fun b H1 => ∃ a g1 S1, g.le g1 ∧ RepS X.K X.mp g1 S1 H1 ∧ R g1 a b ∧ Post X g1 R2 (ExcT X g1 sp) (f a S1) Q) := Post.of (Post.seq h)
theorem rdChain {o o' : V2} {σ : L2.St} {H : Hp} {Q : VK} (h : rdE X (sxChain o o' ta tb tc) σ H Q) : tChain (rV2 X o) (rV2 X o') (rdE X ta) (rdE X tb) (rdE X tc) σ H Q := by
  obtain ⟨g, sp, S, hS, hE, p⟩ := h
  refine (rdE.fst hS hE p).mono fun x H1 ⟨a, g1, S1, l1, q1, e1, r1, p1⟩ => ?_
  refine (rdE.fst q1 e1 p1).mono fun y H2 ⟨b, g2, S2, l2, q2, e2, r2, p2⟩ => ?_
  refine ⟨g2, S2, a, b, q2, RepV.mono l2 _ _ r1, r2, ?_⟩
  have p3 := Post.ofSeq (R := RepV X.K) p2
  cases h3 : o a b S2 with
  | none => rw [h3] at p3; exact p3.elim
  | some q =>
    obtain ⟨z, S3⟩ := q
    rw [h3] at p3
    intro z' H3 g3 l3 q3 r3
    obtain ⟨z2, g4, S4, l4, q4, r4, p4⟩ := p3 z' H3 g3 l3 q3 r3
    cases z2 with
    | bl k =>
      refine ⟨k, r4, ?_⟩
      cases k with
      | true =>
        refine iteT ?_
        refine (rdE.fst q4 (e2.mono (l4)) p4).mono fun w H4 ⟨c, g5, S5, l5, q5, e5, r5, p5⟩ => ?_
        exact ⟨g5, S5, b, c, q5, RepV.mono (l4.trans l5) _ _ r2, r5, Post.of p5⟩
      | false => exact iteF (p4 _ H3 g4 (.refl _) q4 rfl)
    | _ => exact p4.elim
theorem se_chain {op op' : CmpOp} {o o' : V2} (ho : Op2 X (compareOp op) o) (ho' : Op2 X (compareOp op') o') (ha : PE X a (rdE X ta)) (hb : PE X b (rdE X tb)) (hc : PE X c (rdE X tc)) (hm : lastMarks [op, op'] [b, c] = false := by with_unfolding_all rfl) :
    PE X (.Compare a [op, op'] [b, c] pos) (rdE X (sxChain o o' ta tb tc)) := (pe_chain ho ho' ha hb hc hm).imp fun _ _ _ => rdChain
theorem st_chain {op op' : CmpOp} {o o' : V2} (ho : Op2 X (compareOp op) o) (ho' : Op2 X (compareOp op') o') (ha : PE X a (rdE X ta)) (hb : PE X b (rdE X tb)) (hc : PE X c (rdE X tc)) (hm : lastMarks [op, op'] [b, c] = false := by with_unfolding_all rfl) :
    PT X (.Compare a [op, op'] [b, c] pos) (rdT X (stB (sxChain o o' ta tb tc))) := (pt_chain ho ho' ha hb hc hm).imp fun _ _ _ h => (rdB h |> fun (q : rdE X (sxChain o o' ta tb tc) _ _ _) => rdChain q)

/-! ### and, or, not, if -/
def stAnd (t u : St') : St' := fun sp S => (t sp S).bind fun c S1 => if c = true then u sp S1 else .ok false S1
def stOr (t u : St') : St' := fun sp S => (t sp S).bind fun c S1 => if c = true then .ok true S1 else u sp S1
def stNot (t : St') : St' := fun sp S => (t sp S).bind fun c S1 => .ok (!c) S1
variable {rest : List Expr}
theorem st_and1 (ha : PT X a (rdT X tA)) : PW X (.BoolOp .And [a] pos) (rdT X tA) := pw_and1 ha
theorem st_or1 (ha : PT X a (rdT X tA)) : PW X (.BoolOp .Or [a] pos) (rdT X tA) := pw_or1 ha
theorem st_and (ha : PT X a (rdT X tA)) (hb : PW X (.BoolOp .And (b :: rest) pos) (rdT X tB)) : PW X (.BoolOp .And (a :: b :: rest) pos) (rdT X (stAnd tA tB)) := (pw_and ha hb).imp fun σ H Q ⟨g, sp, S, hS, hE, p⟩ => by
  refine (rdT.fst hS hE p).mono fun c H1 ⟨g1, S1, l1, q1, e1, p1⟩ => ?_
  cases c with
  | true => exact iteT ⟨g1, sp, S1, q1, e1, p1⟩
  | false => exact iteF (p1 false H1 g1 (.refl _) q1 rfl)
theorem st_or (ha : PT X a (rdT X tA)) (hb : PW X (.BoolOp .Or (b :: rest) pos) (rdT X tB)) : PW X (.BoolOp .Or (a :: b :: rest) pos) (rdT X (stOr tA tB)) := (pw_or ha hb).imp fun σ H Q ⟨g, sp, S, hS, hE, p⟩ => by
  refine (rdT.fst hS hE p).mono fun c H1 ⟨g1, S1, l1, q1, e1, p1⟩ => ?_
  cases c with
  | true => exact iteT (p1 true H1 g1 (.refl _) q1 rfl)
  | false => exact iteF ⟨g1, sp, S1, q1, e1, p1⟩
theorem st_not (ha : PT X a (rdT X tA)) : PT X (.UnaryOp .Not a pos) (rdT X (stNot tA)) := (pt_not ha).imp fun σ H Q ⟨g, sp, S, hS, hE, p⟩ => by
  exact (rdT.fst hS hE p).mono fun c H1 ⟨g1, S1, l1, q1, e1, p1⟩ => p1 _ H1 g1 (.refl _) q1 rfl
def sxAnd (ta tb : Sx) : Sx := fun sp S => (ta sp S).bind fun v S1 => match v with
  | .bl true => tb sp S1
  | .bl false => .ok (.bl false) S1
  | _ => .stuck
def sxOr (ta tb : Sx) : Sx := fun sp S => (ta sp S).bind fun v S1 => match v with
  | .bl true => .ok (.bl true) S1
  | .bl false => tb sp S1
  | _ => .stuck
def sxNot (ta : Sx) : Sx := fun sp S => (ta sp S).bind fun v S1 => match v with
  | .bl k => .ok (.bl (!k)) S1
  | _ => .stuck
theorem se_one {op} (h : PE X a (rdE X ta)) : PE X (.BoolOp op [a] pos) (rdE X ta) := pe_one h
theorem se_and (ha : PE X a (rdE X ta)) (hb : PE X (.BoolOp .And (b :: rest) pos) (rdE X tb)) : PE X (.BoolOp .And (a :: b :: rest) pos) (rdE X (sxAnd ta tb)) := (pe_and ha hb).imp fun σ H Q ⟨g, sp, S, hS, hE, p⟩ => by
  refine (rdE.fst hS hE p).mono fun x H1 ⟨v, g1, S1, l1, q1, e1, r1, p1⟩ => ?_
  cases v with
  | bl k =>
    refine ⟨k, r1, ?_⟩
    cases k with
    | true => exact iteT ⟨g1, sp, S1, q1, e1, p1⟩
    | false => exact iteF (p1 _ H1 g1 (.refl _) q1 rfl)
  | _ => exact p1.elim
theorem se_or (ha : PE X a (rdE X ta)) (hb : PE X (.BoolOp .Or (b :: rest) pos) (rdE X tb)) : PE X (.BoolOp .Or (a :: b :: rest) pos) (rdE X (sxOr ta tb)) := (pe_or ha hb).imp fun σ H Q ⟨g, sp, S, hS, hE, p⟩ => by
  refine (rdE.fst hS hE p).mono fun x H1 ⟨v, g1, S1, l1, q1, e1, r1, p1⟩ => ?_
  cases v with
  | bl k =>
    refine ⟨k, r1, ?_⟩
    cases k with
    | true => exact iteT (p1 _ H1 g1 (.refl _) q1 rfl)
    | false => exact iteF ⟨g1, sp, S1, q1, e1, p1⟩
  | _ => exact p1.elim
theorem se_not (ha : PE X a (rdE X ta)) : PE X (.UnaryOp .Not a pos) (rdE X (sxNot ta)) := (pe_not ha).imp fun σ H Q ⟨g, sp, S, hS, hE, p⟩ => by
  refine (rdE.fst hS hE p).mono fun x H1 ⟨v, g1, S1, l1, q1, e1, r1, p1⟩ => ?_
  cases v with
  | bl k => exact ⟨k, r1, p1 _ H1 g1 (.refl _) q1 rfl⟩
  | _ => exact p1.elim
def sxIf (t : St') (ta tb : Sx) : Sx := fun sp S => (t sp S).bind fun c S1 => if c = true then ta sp S1 else tb sp S1
theorem se_if (hc : PT X c (rdT X tA)) (ha : PE X a (rdE X ta)) (hb : PE X b (rdE X tb)) : PE X (.IfExp c a b pos) (rdE X (sxIf tA ta tb)) := (pe_ifExp hc ha hb).imp fun σ H Q ⟨g, sp, S, hS, hE, p⟩ => by
  refine (rdT.fst hS hE p).mono fun k H1 ⟨g1, S1, l1, q1, e1, p1⟩ => ?_
  cases k with
  | true => exact iteT ⟨g1, sp, S1, q1, e1, p1⟩
  | false => exact iteF ⟨g1, sp, S1, q1, e1, p1⟩

/-! ### arguments, displays, calls of built-ins -/
def saNil : Sa := fun _ S => .ok [] S
def saCons (ta : Sx) (tr : Sa) : Sa := fun sp S => (ta sp S).bind fun a S1 => (tr sp S1).bind fun as S2 => .ok (a :: as) S2
variable {tr : Sa}
theorem sa_nil : PA X [] (rdA X saNil) := pa_nil.imp fun σ H Q ⟨g, sp, S, hS, hE, p⟩ => p [] H g (.refl _) hS rfl
theorem sa_cons (ha : PE X e (rdE X te)) (hr : PA X es (rdA X tr)) (hs : starEach (e :: es) X.env = (false, eval e X.env) :: starEach es X.env := by rfl) : PA X (e :: es) (rdA X (saCons te tr)) := (pa_cons ha hr hs).imp fun σ H Q ⟨g, sp, S, hS, hE, p⟩ => by
  refine (rdE.fst hS hE p).mono fun x H1 ⟨a, g1, S1, l1, q1, e1, r1, p1⟩ => ?_
  refine (rdA.fst q1 e1 p1).mono fun xs H2 ⟨as, g2, S2, l2, q2, e2, r2, p2⟩ => ?_
  exact p2 _ H2 g2 (.refl _) q2 (.cons (RepV.mono l2 _ _ r1) r2)
def sxN (o : VN) (t : Sa) : Sx := fun sp S => (t sp S).bind fun as S1 => .of (o as S1)
theorem rdN {o : VN} {t : Sa} {σ : L2.St} {H : Hp} {Q : VK} (h : rdE X (sxN o t) σ H Q) : rdA X t σ H fun xs H1 => rVN X o xs H1 Q := by
  obtain ⟨g, sp, S, hS, hE, p⟩ := h
  exact (rdA.fst hS hE p).mono fun xs H1 ⟨as, g1, S1, l1, q1, e1, r1, p1⟩ => ⟨g1, S1, as, q1, r1, Post.of p1⟩
/-- displays -/
def vTup : VN := fun as S => if as.length ≤ sizeLine then some (.tup as, S) else none
def vLst : VN := fun as S => if as.length ≤ sizeLine then some (.lst as, S) else none
def vNew : VN := fun as S => if as.length ≤ sizeLine then some (.ref S.length, S ++ [.lst as]) else none
theorem se_tup {k} (h : PA X es (rdA X tr)) : PE X (.Tuple es k pos) (rdE X (sxN vTup tr)) := (pe_tup h).imp fun σ H Q q => (rdN q).mono fun xs H1 ⟨g1, S1, as, q1, r1, p1⟩ => by
  unfold vTup at p1
  split at p1
  · rename_i hl
    exact ⟨by rw [← r1.length]; exact hl, p1.tup q1 r1⟩
  · exact p1.elim
theorem se_lst (h : PA X es (rdA X tr)) : PE X (.List es pos) (rdE X (sxN vLst tr)) := (pe_lst h).imp fun σ H Q q => (rdN q).mono fun xs H1 ⟨g1, S1, as, q1, r1, p1⟩ => by
  unfold vLst at p1
  split at p1
  · rename_i hl
    exact ⟨by rw [← r1.length]; exact hl, p1.lst q1 r1⟩
  · exact p1.elim
theorem se_new (h : PA X es (rdA X tr)) : PE X (.List es pos) (rdE X (sxN vNew tr)) := (pe_lst h).imp fun σ H Q q => (rdN q).mono fun xs H1 ⟨g1, S1, as, q1, r1, p1⟩ => by
  unfold vNew at p1
  split at p1
  · rename_i hl
    exact ⟨by rw [← r1.length]; exact hl, p1.new q1 r1⟩
  · exact p1.elim
abbrev CallN (X : Cx) (f : Value) (o : VN) : Prop := CallR X f (rVN X o)
variable {id T : String} {x : Str} {p : Pos}
theorem se_callB {o : VN} (hc : CallN X (.builtin id) o) (hg : Gl X x) (hm : X.mg x = none) (hv : bootBuiltins x = some (.builtin id)) (ha : PA X (e :: es) (rdA X tr)) (hn : x ≠ "__name__" := by decide) (hdb : (x == ("__debug__" : Str)) = false := by decide)
    (he : starEach (e :: es) X.env = (false, eval e X.env) :: starEach es X.env := by rfl) (hpl : (backTo pos (starEach es X.env)).any (·.1) = false := by rfl) : PE X (.Call (.Name x p) (e :: es) [] pos) (rdE X (sxN o tr)) :=
  (pe_callB hc hg hm hv ha hn hdb he hpl).imp fun _ _ _ => rdN
theorem se_callTy {o : VN} (hc : CallN X (.type T) o) (hg : Gl X x) (hm : X.mg x = none) (hv : bootBuiltins x = some (.type T)) (ha : PA X (e :: es) (rdA X tr)) (hn : x ≠ "__name__" := by decide) (hdb : (x == ("__debug__" : Str)) = false := by decide)
    (he : starEach (e :: es) X.env = (false, eval e X.env) :: starEach es X.env := by rfl) (hpl : (backTo pos (starEach es X.env)).any (·.1) = false := by rfl) : PE X (.Call (.Name x p) (e :: es) [] pos) (rdE X (sxN o tr)) :=
  (pe_callTy hc hg hm hv ha hn hdb he hpl).imp fun _ _ _ => rdN
/-- a subscript -/
abbrev Ix2 (X : Cx) (o : V2) : Prop := IxR X (rV2 X o)
theorem se_ix {o : V2} (hr : Ix2 X o) (ha : PE X a (rdE X ta)) (hb : PE X b (rdE X tb)) (hs : PlainIx b := by exact fun _ _ => rfl) : PE X (.Subscript a b pos) (rdE X (sx2 o ta tb)) := (pe_ix hr ha hb hs).imp fun _ _ _ => rd2
/-- a slice's part -/
abbrev So := Sl → Sto → Out (Option Int)
def rdO (X : Cx) (t : So) : TO := fun σ H Q => ∃ g sp S, RepS X.K X.mp g S H ∧ RepE X.K g sp σ ∧ Post X g (fun _ a b => a = b) (ExcT X g sp) (t sp S) Q
def soNo : So := fun _ S => .ok none S
def soPart (t : Sx) : So := fun sp S => (t sp S).bind fun v S1 => match v with
  | .int i => .ok (some i) S1
  | _ => .stuck
theorem _root_.L2.PO.imp {o : Option Expr} {t t' : TO} (h : PO X o t) (i : ∀ σ H Q, t' σ H Q → t σ H Q) : PO X o t' := ⟨fun pins s σ H Q I q => h.run pins s σ H Q I (i _ _ _ q)⟩
theorem so_no : PO X none (rdO X soNo) := po_none.imp fun σ H Q ⟨g, sp, S, hS, hE, p⟩ => p none H g (.refl _) hS rfl
theorem so_part (h : PE X e (rdE X te)) : PO X (some e) (rdO X (soPart te)) := (po_some h).imp fun σ H Q ⟨g, sp, S, hS, hE, p⟩ => by
  refine (rdE.fst hS hE p).mono fun x H1 ⟨a, g1, S1, l1, q1, e1, r1, p1⟩ => ?_
  cases a with
  | int i => exact ⟨i, r1, p1 _ H1 g1 (.refl _) q1 rfl⟩
  | _ => exact p1.elim
abbrev VS := PV → Option Int → Option Int → Sto → Option (PV × Sto)
def rVS (X : Cx) (o : VS) : V → Option Int → Option Int → Hp → VK → Prop := fun x lo hi H Q => ∃ g S a, RepS X.K X.mp g S H ∧ RepV X.K g a x ∧ PostO X g (RepV X.K) (o a lo hi S) Q
def sxSl (o : VS) (ta : Sx) (tl th : So) : Sx := fun sp S => (ta sp S).bind fun a S1 => (tl sp S1).bind fun lo S2 => (th sp S2).bind fun hi S3 => .of (o a lo hi S3)
theorem rdO.fst {γ δ : Type} {ta : So} {sp : Sl} {S : Sto} {g : Gh} {σ : L2.St} {H : Hp} {R2 : Gh → γ → δ → Prop} {f : Option Int → Sto → Out γ} {Q : δ → Hp → Prop} (hS : RepS X.K X.mp g S H) (hE : RepE X.K g sp σ)
    (h : Post X g R2 (ExcT X g sp) ((ta sp S).bind f) Q) {Q' : Option Int → Hp → Prop} (i : ∀ b H1, (∃ g1 S1, g.le g1 ∧ RepS X.K X.mp g1 S1 H1 ∧ RepE X.K g1 sp σ ∧ Post X g1 R2 (ExcT X g1 sp) (f b S1) Q) → Q' b H1) : rdO X ta σ H Q' :=
  ⟨g, sp, S, hS, hE, (Post.seq h).imp (fun _ _ x => x) fun b H1 ⟨a, g1, S1, l, q1, q2, q3⟩ => i b H1 ⟨g1, S1, l, q1, hE.mono l, by rw [← q2]; exact q3⟩⟩
theorem se_sl {o : VS} {lo hi : Option Expr} {tl th : So} {p2 : Pos} (hr : SlR X (rVS X o)) (he : PE X e (rdE X te)) (hl : PO X lo (rdO X tl)) (hu : PO X hi (rdO X th)) : PE X (.Subscript e (.Slice lo hi none p2) pos) (rdE X (sxSl o te tl th)) :=
  (pe_slice hr he hl hu).imp fun σ H Q ⟨g, sp, S, hS, hE, p⟩ => by
    refine (rdE.fst hS hE p).mono fun x H1 ⟨a, g1, S1, l1, q1, e1, r1, p1⟩ => ?_
    refine rdO.fst q1 e1 p1 fun l H2 ⟨g2, S2, l2, q2, e2, p2⟩ => ?_
    refine rdO.fst q2 e2 p2 fun u H3 ⟨g3, S3, l3, q3, e3, p3⟩ => ?_
    exact ⟨g3, S3, a, q3, RepV.mono (l2.trans l3) _ _ r1, Post.of p3⟩
end

/-! ### statements -/
@[reducible] def bindS {α : Type} (o : Out α) (sp : Sl) (f : α → Sto → SOut) : SOut := match o with
  | .ok a S => f a S
  | .exc x S => .exc x sp S
  | .stuck => .stuck
section
variable {X : Cx} {st : Stmt} {rest : List Stmt} {t u : Ss} {e : Expr} {te : Sx} {pos : Pos} {D : Ends}
theorem PostS.le {g g1 : Gh} {o : SOut} (h : PostS X g o D) (l : g.le g1) : PostS X g1 o D := by
  cases o with
  | nx sp S => exact fun σ H g' l' => h σ H g' (l.trans l')
  | rt x S => exact fun σ H g' l' => h σ H g' (l.trans l')
  | bk sp S => exact fun σ H g' l' => h σ H g' (l.trans l')
  | ct sp S => exact fun σ H g' l' => h σ H g' (l.trans l')
  | exc x sp S => exact ExcT.mono h l
  | stuck => exact h
theorem PostS.seq {α β : Type} {g : Gh} {R : Gh → α → β → Prop} {sp : Sl} {o : Out α} {f : α → Sto → SOut} (h : PostS X g (bindS o sp f) D) :
    Post X g R (ExcT X g sp) o (fun b H1 => ∃ a g1 S1, g.le g1 ∧ RepS X.K X.mp g1 S1 H1 ∧ R g1 a b ∧ PostS X g1 (f a S1) D) := by
  cases o with
  | ok a S => exact fun b H1 g1 l hS r => ⟨a, g1, S, l, hS, r, PostS.le (show PostS X g (f a S) D from h) l⟩
  | exc x S => exact h
  | stuck => exact h
theorem rdE.sq {g : Gh} {S : Sto} {H : Hp} {σ : L2.St} {sp : Sl} {f : PV → Sto → SOut} (hS : RepS X.K X.mp g S H) (hE : RepE X.K g sp σ) (h : PostS X g (bindS (te sp S) sp f) D) :
    rdE X te σ H (fun b H1 => ∃ a g1 S1, g.le g1 ∧ RepS X.K X.mp g1 S1 H1 ∧ RepE X.K g1 sp σ ∧ RepV X.K g1 a b ∧ PostS X g1 (f a S1) D) :=
  ⟨g, sp, S, hS, hE, (PostS.seq h).imp (fun _ _ x => x) fun _ _ ⟨a, g1, S1, l, q1, q2, q3⟩ => ⟨a, g1, S1, l, q1, hE.mono l, q2, q3⟩⟩
theorem rdT.sq {tt : St'} {g : Gh} {S : Sto} {H : Hp} {σ : L2.St} {sp : Sl} {f : Bool → Sto → SOut} (hS : RepS X.K X.mp g S H) (hE : RepE X.K g sp σ) (h : PostS X g (bindS (tt sp S) sp f) D) :
    rdT X tt σ H (fun b H1 => ∃ g1 S1, g.le g1 ∧ RepS X.K X.mp g1 S1 H1 ∧ RepE X.K g1 sp σ ∧ PostS X g1 (f b S1) D) :=
  ⟨g, sp, S, hS, hE, (PostS.seq h).imp (fun _ _ x => x) fun _ _ ⟨a, g1, S1, l, q1, q2, q3⟩ => ⟨g1, S1, l, q1, hE.mono l, by rw [← q2]; exact q3⟩⟩
def ssNil : Ss := fun sp S => .nx sp S
def ssSeq (t u : Ss) : Ss := fun sp S => match t sp S with
  | .nx sp' S' => u sp' S'
  | o => o
theorem ss_nil : PSs X [] (rdS X ssNil) := pss_nil.imp fun D σ H ⟨g, sp, S, hS, hE, p⟩ => p σ H g (.refl _) hS hE
theorem ss_cons (h1 : PS X st (rdS X t)) (h2 : PSs X rest (rdS X u)) : PSs X (st :: rest) (rdS X (ssSeq t u)) := (pss_cons h1 h2).imp fun D σ H ⟨g, sp, S, hS, hE, p⟩ => by
  refine ⟨g, sp, S, hS, hE, ?_⟩
  unfold ssSeq at p
  cases h : t sp S with
  | nx sp' S' =>
    rw [h] at p
    exact fun σ' H' g' l q1 q2 => ⟨g', sp', S', q1, q2, p.le l⟩
  | rt x S' => rw [h] at p; exact p
  | bk sp' S' => rw [h] at p; exact p
  | ct sp' S' => rw [h] at p; exact p
  | exc x sp' S' => rw [h] at p; exact p
  | stuck => rw [h] at p; exact p
theorem ss_one (h1 : PS X st (rdS X t)) : PSs X [st] (rdS X t) := pss_one h1
theorem ss_pass : PS X (.Pass pos) (rdS X ssNil) := ps_pass.imp fun D σ H ⟨g, sp, S, hS, hE, p⟩ => p σ H g (.refl _) hS hE
theorem ss_doc {x j pos'} : PS X (.Expr (.Constant (.str x) j pos) pos') (rdS X ssNil) := ps_doc.imp fun D σ H ⟨g, sp, S, hS, hE, p⟩ => p σ H g (.refl _) hS hE
def ssBreak : Ss := fun sp S => .bk sp S
def ssCont : Ss := fun sp S => .ct sp S
theorem ss_break : PS X (.Break pos) (rdS X ssBreak) := ps_break.imp fun D σ H ⟨g, sp, S, hS, hE, p⟩ => p σ H g (.refl _) hS hE
theorem ss_continue : PS X (.Continue pos) (rdS X ssCont) := ps_continue.imp fun D σ H ⟨g, sp, S, hS, hE, p⟩ => p σ H g (.refl _) hS hE
/-- what is never reached -/
def ssNo : Ss := fun _ _ => .stuck
theorem ss_no : PS X st (rdS X ssNo) := ps_never.imp fun D σ H ⟨g, sp, S, hS, hE, p⟩ => p.elim
theorem sss_no {sts : List Stmt} : PSs X sts (rdS X ssNo) := pss_never.imp fun D σ H ⟨g, sp, S, hS, hE, p⟩ => p.elim
def ssExpr (te : Sx) : Ss := fun sp S => bindS (te sp S) sp fun _ S1 => .nx sp S1
theorem ss_expr (he : PE X e (rdE X te)) (hs : swapsWith e none pos.line X.env = pure false := by rfl) : PS X (.Expr e pos) (rdS X (ssExpr te)) := (ps_expr he hs).imp fun D σ H ⟨g, sp, S, hS, hE, p⟩ =>
  (rdE.sq hS hE p).mono fun x H1 ⟨a, g1, S1, l1, q1, e1, r1, p1⟩ => p1 σ H1 g1 (.refl _) q1 e1
def ssRet (te : Sx) : Ss := fun sp S => bindS (te sp S) sp fun v S1 => .rt v S1
theorem ss_ret (he : PE X e (rdE X te)) : PS X (.Return (some e) pos) (rdS X (ssRet te)) := (ps_ret he).imp fun D σ H ⟨g, sp, S, hS, hE, p⟩ =>
  (rdE.sq hS hE p).mono fun x H1 ⟨a, g1, S1, l1, q1, e1, r1, p1⟩ => p1 x H1 g1 (.refl _) q1 r1
def ssRetN : Ss := fun _ S => .rt .non S
theorem ss_retN : PS X (.Return none pos) (rdS X ssRetN) := ps_retN.imp fun D σ H ⟨g, sp, S, hS, hE, p⟩ => p .non H g (.refl _) hS rfl
def ssIf (c : St') (t u : Ss) : Ss := fun sp S => bindS (c sp S) sp fun k S1 => if k = true then t sp S1 else u sp S1
theorem ss_if {c : Expr} {as bs : List Stmt} {tc : St'} (hc : PT X c (rdT X tc)) (ha : PSs X as (rdS X t)) (hb : PSs X bs (rdS X u)) : PS X (.If c as bs pos) (rdS X (ssIf tc t u)) := (ps_if hc ha hb).imp fun D σ H ⟨g, sp, S, hS, hE, p⟩ => by
  refine (rdT.sq hS hE p).mono fun k H1 ⟨g1, S1, l1, q1, e1, p1⟩ => ?_
  cases k with
  | true => exact iteT ⟨g1, sp, S1, q1, e1, p1⟩
  | false => exact iteF ⟨g1, sp, S1, q1, e1, p1⟩
def ssSet (i : Nat) (te : Sx) : Ss := fun sp S => bindS (te sp S) sp fun v S1 => .nx (sp.set i (some v)) S1
theorem ss_set (i : Nat) {x : Str} {pos' : Pos} (hN : X.N.Nodup) (he : PE X e (rdE X te)) (hi : X.N[i]? = some x := by rfl) (hx : Loc X.env.scope x := by first | exact Or.inl rfl | exact Or.inr rfl) (hs : swapsWith e (some (.Name x pos')) pos.line X.env = pure false := by rfl) (hf : X.fn x = true ∨ X.env.scope.names.lookup x = some .local := by first | exact .inl rfl | exact .inr rfl) :
    PS X (.Assign [.Name x pos'] e pos) (rdS X (ssSet i te)) := (ps_set hN hi hx he hs hf).imp fun D σ H ⟨g, sp, S, hS, hE, p⟩ =>
  (rdE.sq hS hE p).mono fun x H1 ⟨a, g1, S1, l1, q1, e1, r1, p1⟩ => p1 _ H1 g1 (.refl _) q1 (e1.set r1 i)
end

/-! ### targets -/
/-- a target takes a value -/
abbrev Sg := PV → Sl → Sto → Option Sl
/-- but for the places is all stays -/
def Near (is : List Nat) (σ σ' : L2.St) : Prop := σ'.length = σ.length ∧ ∀ i, i ∉ is → σ'[i]? = σ[i]?
theorem Near.refl {is : List Nat} {σ : L2.St} : Near is σ σ := ⟨rfl, fun _ _ => rfl⟩
theorem Near.trans {is js : List Nat} {σ σ1 σ2 : L2.St} (a : Near is σ σ1) (b : Near js σ1 σ2) : Near (is ++ js) σ σ2 := ⟨b.1.trans a.1, fun i h => (b.2 i fun z => h (List.mem_append_right _ z)).trans (a.2 i fun z => h (List.mem_append_left _ z))⟩
def rdG (X : Cx) (is : List Nat) (t : Sg) : TG := fun v σ H Q => ∃ g sp S x sp', RepS X.K X.mp g S H ∧ RepE X.K g sp σ ∧ RepV X.K g x v ∧ t x sp S = some sp' ∧ ∀ σ' g', g.le g' → RepS X.K X.mp g' S H → RepE X.K g' sp' σ' → Near is σ σ' → Q σ' H
abbrev Sgs := List PV → Sl → Sto → Option Sl
def rdGs (X : Cx) (is : List Nat) (t : Sgs) : TGs := fun vs σ H Q => ∃ g sp S xs sp', RepS X.K X.mp g S H ∧ RepE X.K g sp σ ∧ RepVs X.K g xs vs ∧ t xs sp S = some sp' ∧ ∀ σ' g', g.le g' → RepS X.K X.mp g' S H → RepE X.K g' sp' σ' → Near is σ σ' → Q σ' H
section
variable {X : Cx} {pos : Pos} {e : Expr} {es : List Expr}
theorem _root_.L2.PG.imp {t t' : TG} (h : PG X e t) (i : ∀ v σ H Q, t' v σ H Q → t v σ H Q) : PG X e t' := ⟨fun pins s σ H v u Q I r q => h.run pins s σ H v u Q I r (i _ _ _ _ q)⟩
theorem _root_.L2.PGs.imp {t t' : TGs} (h : PGs X es t) (i : ∀ v σ H Q, t' v σ H Q → t v σ H Q) : PGs X es t' := ⟨fun pins s σ H v u Q I r q => h.run pins s σ H v u Q I r (i _ _ _ _ q)⟩
def sgName (i : Nat) : Sg := fun v sp _ => some (sp.set i (some v))
theorem sg_name (i : Nat) {x : Str} (hN : X.N.Nodup) (hi : X.N[i]? = some x := by rfl) (hx : Loc X.env.scope x := by first | exact Or.inl rfl | exact Or.inr rfl) (hf : X.fn x = true ∨ X.env.scope.names.lookup x = some .local := by first | exact .inl rfl | exact .inr rfl) : PG X (.Name x pos) (rdG X [i] (sgName i)) :=
  (pg_name hN hi hx hf).imp fun v σ H Q ⟨g, sp, S, y, sp', hS, hE, r, e, k⟩ => by
    cases e
    exact k _ g (.refl _) hS (hE.set r i) ⟨by simp, fun j hj => List.getElem?_set_ne (fun e => hj (by simp [e]))⟩
def sgNil : Sgs := fun vs sp _ => match vs with
  | [] => some sp
  | _ :: _ => none
def sgCons (t : Sg) (u : Sgs) : Sgs := fun vs sp S => match vs with
  | [] => none
  | v :: r => (t v sp S).bind fun sp1 => u r sp1 S
theorem sgs_nil : PGs X [] (rdGs X [] sgNil) := pgs_nil.imp fun vs σ H Q ⟨g, sp, S, xs, sp', hS, hE, r, e, k⟩ => by
  cases xs with
  | nil =>
    cases e
    exact ⟨r, k _ g (.refl _) hS hE .refl⟩
  | cons x xs => cases e
theorem sgs_cons {t : Sg} {u : Sgs} {is js : List Nat} (h1 : PG X e (rdG X is t)) (h2 : PGs X es (rdGs X js u))
    (hs : (assignEach (e :: es) X.env).map (·.2) = assign e X.env :: (assignEach es X.env).map (·.2) := by rfl) : PGs X (e :: es) (rdGs X (is ++ js) (sgCons t u)) := (pgs_cons h1 h2 hs).imp fun vs σ H Q ⟨g, sp, S, xs, sp', hS, hE, r, e, k⟩ => by
  cases xs with
  | nil => cases e
  | cons x xs =>
    obtain ⟨v, vr, e1, r1, r2⟩ := r
    have e' : ((t x sp S).bind fun sp1 => u xs sp1 S) = some sp' := e
    cases h : t x sp S with
    | none => rw [h] at e'; cases e'
    | some sp1 =>
      rw [h] at e'
      exact ⟨v, vr, e1, g, sp, S, x, sp1, hS, hE, r1, h, fun σ1 g1 l q1 q2 n1 => ⟨g1, sp1, S, xs, sp', q1, q2, RepVs.mono l _ _ r2, e', fun σ' g' l' q3 q4 n2 => k σ' g' (l.trans l') q3 q4 (n1.trans n2)⟩⟩
/-- (a, b, ..) = a tuple -/
def sgTup (n : Nat) (t : Sgs) : Sg := fun v sp S => match v with
  | .tup xs => if xs.length = n then t xs sp S else none
  | _ => none
theorem sg_tup {k : Nat} {t : Sgs} {n : Nat} {is : List Nat} (hc : X.calm = true) (h : PGs X es (rdGs X is t)) (hn : (assignEach es X.env).length = n := by rfl) (hst : (assignEach es X.env).findIdx? (·.1) = none := by rfl) : PG X (.Tuple es k pos) (rdG X is (sgTup n t)) :=
  (pg_tup hc h hn hst).imp fun v σ H Q ⟨g, sp, S, y, sp', hS, hE, r, e, k⟩ => by
    cases y with
    | tup xs =>
      obtain ⟨a, vs, e1, h1, r1⟩ := r
      have e' : (if xs.length = n then t xs sp S else none) = some sp' := e
      split at e'
      · rename_i hl
        exact ⟨a, vs, e1, SqT.mono hS.fz h1, by rw [← r1.length]; exact hl, g, sp, S, xs, sp', hS, hE, r1, e', k⟩
      · cases e'
    | _ => cases e
def ssAsg (te : Sx) (t : Sg) : Ss := fun sp S => bindS (te sp S) sp fun v S1 => match t v sp S1 with
  | some sp' => .nx sp' S1
  | none => .stuck
theorem ss_asg {tg : Expr} {te : Sx} {t : Sg} {is : List Nat} (he : PE X e (rdE X te)) (hg : PG X tg (rdG X is t)) (hs : swapsWithSole [tg] e pos.line X.env = pure false := by rfl) (hw : swappedStores [tg] e X.env = pure none := by rfl)
    (h1 : (assignEach [tg] X.env).map (·.2) = [assign tg X.env] := by rfl) : PS X (.Assign [tg] e pos) (rdS X (ssAsg te t)) := (ps_asg he hg hs hw h1).imp fun D σ H ⟨g, sp, S, hS, hE, p⟩ => by
  refine (rdE.sq hS hE p).mono fun x H1 ⟨a, g1, S1, l1, q1, e1, r1, p1⟩ => ?_
  cases h : t a sp S1 with
  | none => rw [h] at p1; exact p1.elim
  | some sp' =>
    rw [h] at p1
    exact ⟨g1, sp, S1, a, sp', q1, e1, r1, h, fun σ' g' l q q' _ => p1 σ' H1 g' l q q'⟩
/-- a, b = x, y with plain local names -/
def ssPar (i j : Nat) (ta : Sa) : Ss := fun sp S => bindS (ta sp S) sp fun vs S1 => match vs with
  | [v, w] => .nx ((sp.set i (some v)).set j (some w)) S1
  | _ => .stuck
theorem ss_par (i j : Nat) {x y : Str} {a b : Expr} {ta : Sa} {px py pt : Pos} {kt k2 pt2} (hc : X.calm = true) (hN : X.N.Nodup) (ha : PA X [a, b] (rdA X ta)) (hi : X.N[i]? = some x := by rfl) (hj : X.N[j]? = some y := by rfl) (hij : i ≠ j := by decide)
    (hx : X.env.scope.names.lookup x = some .local := by rfl) (hy : X.env.scope.names.lookup y = some .local := by rfl)
    (hw : swappedStores [.Tuple [.Name x px, .Name y py] kt pt] (.Tuple [a, b] k2 pt2) X.env = pure (some [x, y]) := by rfl)
    (hs : swapsWithSole [.Tuple [.Name x px, .Name y py] kt pt] (.Tuple [a, b] k2 pt2) pos.line X.env = pure false := by rfl) :
    PS X (.Assign [.Tuple [.Name x px, .Name y py] kt pt] (.Tuple [a, b] k2 pt2) pos) (rdS X (ssPar i j ta)) := (ps_par hc hN hi hj hij hx hy ha hw hs).imp fun D σ H ⟨g, sp, S, hS, hE, p⟩ => by
  refine ⟨g, sp, S, hS, hE, (PostS.seq p).imp (fun _ _ x => x) fun vs H1 ⟨as, g1, S1, l1, q1, r1, p1⟩ => ?_⟩
  match as, r1, p1 with
  | [], _, p1 => exact p1.elim
  | [_], _, p1 => exact p1.elim
  | _ :: _ :: _ :: _, _, p1 => exact p1.elim
  | [v, w], r1, p1 =>
    obtain ⟨v', r', e1, r2, w', r'', e2, r3, e3⟩ := r1
    subst e1 e2
    cases (show r'' = [] from e3)
    exact ⟨v', w', rfl, p1 _ H1 g1 (.refl _) q1 (((hE.mono l1).set r2 i).set r3 j)⟩
end
end MX

end

section
/-! Operations on values. -/
namespace MX
open PySem PySem.Spec PyProof.Rows L2

/-! ### reading lists, tuples, data -/
def listOf (S : Sto) : PV → Option (List PV)
  | .lst xs => some xs
  | .ref n => match S[n]? with
    | some (.lst xs) => some xs
    | _ => none
  | _ => none
def tupOf : PV → Option (List PV)
  | .tup xs => some xs
  | _ => none
def seqOf (S : Sto) : PV → Option (List PV)
  | .tup xs => some xs
  | .lst xs => some xs
  | .ref n => match S[n]? with
    | some (.lst xs) => some xs
    | _ => none
  | _ => none
section
variable {K : PySem.W.Frag} {mg : MP} {g : Gh} {S : Sto} {H : Hp} {a : PV} {x : V} {xs : List PV}
theorem RepS.list (hS : RepS K mg g S H) (r : RepV K g a x) (h : listOf S a = some xs) : ∃ p vs, x = .ref p ∧ LsQ K H p vs ∧ RepVs K g xs vs := by
  cases a with
  | lst ys =>
    cases (show some ys = some xs from h)
    obtain ⟨p, vs, e, h1, h2⟩ := r
    exact ⟨p, vs, e, LsQ.mono hS.fz h1, h2⟩
  | ref n =>
    obtain ⟨p, e, h1⟩ := r
    obtain ⟨so, h2⟩ := hS.at_ h1
    unfold listOf at h
    simp only [h2] at h
    cases so with
    | lst ys =>
      cases h
      obtain ⟨vs, q1, q2⟩ := hS.ob n _ p h2 h1
      exact ⟨p, vs, e, .inl (.inl q1), q2⟩
    | _ => cases h
  | _ => cases h
theorem RepS.seq (hS : RepS K mg g S H) (r : RepV K g a x) (h : seqOf S a = some xs) : ∃ p vs, x = .ref p ∧ (SqL K H p vs ∨ SqT K H p vs) ∧ RepVs K g xs vs := by
  cases a with
  | tup ys =>
    cases (show some ys = some xs from h)
    obtain ⟨p, vs, e, h1, h2⟩ := r
    exact ⟨p, vs, e, .inr (SqT.mono hS.fz h1), h2⟩
  | lst ys =>
    obtain ⟨p, vs, e, h1, h2⟩ := hS.list r (xs := xs) h
    exact ⟨p, vs, e, .inl h1.sq, h2⟩
  | ref n =>
    obtain ⟨p, vs, e, h1, h2⟩ := hS.list r (xs := xs) h
    exact ⟨p, vs, e, .inl h1.sq, h2⟩
  | _ => cases h
end
mutual
def toD : PV → Option PyData
  | .non => some .none
  | .bl b => some (.bool b)
  | .int i => some (.int i)
  | .str x => some (.str x)
  | .tup xs => (toDs xs).map PyData.tuple
  | .lst xs => (toDs xs).map PyData.list
  | .ref _ => none
def toDs : List PV → Option (List PyData)
  | [] => some []
  | x :: xs => match toD x, toDs xs with
    | some d, some ds => some (d :: ds)
    | _, _ => none
end
/-- data, a list of the store read -/
def dOf (S : Sto) : PV → Option PyData
  | .ref n => match S[n]? with
    | some (.lst xs) => (toDs xs).map PyData.list
    | _ => none
  | v => toD v
section
variable {K : PySem.W.Frag} {mg : MP} {g : Gh} {S : Sto} {H : Hp}
mutual
theorem toD_rep {H : Hp} (f : ∀ a o, g.fz a = some o → H a = some o) : ∀ (a : PV) (x : V) (d : PyData), RepV K g a x → toD a = some d → Dp K H x d
  | .non, _, _, r, h => by cases (show _ = V.non from r); cases (show some _ = some _ from h); exact .non
  | .bl b, _, _, r, h => by cases (show _ = V.bl b from r); cases (show some _ = some _ from h); exact .bl b
  | .int i, _, _, r, h => by cases (show _ = V.int i from r); cases (show some _ = some _ from h); exact .int i
  | .str z, _, _, r, h => by cases (show _ = V.str z from r); cases (show some _ = some _ from h); exact .str z
  | .tup xs, _, d, r, h => by
    obtain ⟨p, vs, e, h1, h2⟩ := r
    subst e
    have h' : (toDs xs).map PyData.tuple = some d := h
    cases q : toDs xs with
    | none => rw [q] at h'; cases h'
    | some ds =>
      rw [q] at h'; cases h'
      exact .tup (SqT.mono f h1) (toDs_rep f xs vs ds h2 q)
  | .lst xs, _, d, r, h => by
    obtain ⟨p, vs, e, h1, h2⟩ := r
    subst e
    have h' : (toDs xs).map PyData.list = some d := h
    cases q : toDs xs with
    | none => rw [q] at h'; cases h'
    | some ds =>
      rw [q] at h'; cases h'
      exact .lst (LsQ.mono f h1).sq (toDs_rep f xs vs ds h2 q)
  | .ref _, _, _, _, h => by cases h
theorem toDs_rep {H : Hp} (f : ∀ a o, g.fz a = some o → H a = some o) : ∀ (xs : List PV) (vs : List V) (ds : List PyData), RepVs K g xs vs → toDs xs = some ds → DpAll K H vs ds
  | [], _, _, r, h => by cases (show _ = [] from r); cases (show some _ = some _ from h); exact .nil
  | x :: xs, _, ds, r, h => by
    obtain ⟨v, vr, e, r1, r2⟩ := r
    subst e
    have h' : (match toD x, toDs xs with
      | some d, some ds => some (d :: ds)
      | _, _ => none) = some ds := h
    cases q1 : toD x with
    | none => rw [q1] at h'; cases h'
    | some d =>
      cases q2 : toDs xs with
      | none => rw [q1, q2] at h'; cases h'
      | some ds' =>
        rw [q1, q2] at h'; cases h'
        exact .cons (toD_rep f x v d r1 q1) (toDs_rep f xs vr ds' r2 q2)
end
theorem RepS.data (hS : RepS K mg g S H) {a : PV} {x : V} {d : PyData} (r : RepV K g a x) (h : dOf S a = some d) : Dp K H x d := by
  cases a with
  | ref n =>
    obtain ⟨p, e, h1⟩ := r
    obtain ⟨so, h2⟩ := hS.at_ h1
    unfold dOf at h
    simp only [h2] at h
    cases so with
    | lst ys =>
      obtain ⟨vs, q1, q2⟩ := hS.ob n _ p h2 h1
      have h' : (toDs ys).map PyData.list = some d := h
      cases q : toDs ys with
      | none => rw [q] at h'; cases h'
      | some ds =>
        rw [q] at h'; cases h'
        subst e
        exact .lst (SqL.of q1) (toDs_rep hS.fz ys vs ds q2 q)
    | _ => cases h
  | non => exact toD_rep hS.fz _ _ _ r h
  | bl b => exact toD_rep hS.fz _ _ _ r h
  | int i => exact toD_rep hS.fz _ _ _ r h
  | str z => exact toD_rep hS.fz _ _ _ r h
  | tup xs => exact toD_rep hS.fz _ _ _ r h
  | lst xs => exact toD_rep hS.fz _ _ _ r h
end

/-! ### operators -/
def vAdd : V2 := fun a b S => match a, b with
  | .int i, .int j => some (.int (i + j), S)
  | .str x, .str y => if x.length + y.length ≤ sizeLine then some (.str (x ++ y), S) else none
  | .tup xs, .tup ys => if xs.length + ys.length ≤ sizeLine then some (.tup (xs ++ ys), S) else none
  | a, b => match listOf S a, listOf S b with
    | some xs, some ys => if xs.length + ys.length ≤ sizeLine then some (.lst (xs ++ ys), S) else none
    | _, _ => none
def vSub : V2 := fun a b S => match a, b with
  | .int i, .int j => some (.int (i - j), S)
  | _, _ => none
instance (i j : Int) : Decidable (CMul i j) := by unfold CMul; infer_instance
instance (i j : Int) : Decidable (CDivN i j) := by unfold CDivN; infer_instance
instance (i j : Int) : Decidable (CPow i j) := by unfold CPow; infer_instance
def vMul : V2 := fun a b S => match a, b with
  | .int i, .int j => if CMul i j then some (.int (i * j), S) else none
  | .tup xs, .int k => if xs ≠ [] ∧ 2 ≤ k ∧ k ≤ 1000 ∧ xs.length ≤ 1000 then some (.tup (List.replicate k.toNat xs).flatten, S) else none
  | a, .int k => match listOf S a with
    | some xs => if -(2 ^ 63) ≤ k ∧ k < 2 ^ 63 ∧ xs.length * k.toNat ≤ sizeLine then some (.lst (List.replicate k.toNat xs).flatten, S) else none
    | none => none
  | _, _ => none
def vMod : V2 := fun a b S => match a, b with
  | .int i, .int j => if j ≠ 0 then some (.int (i.fmod j), S) else none
  | _, _ => none
def vFDiv : V2 := fun a b S => match a, b with
  | .int i, .int j => if CDivN i j then some (.int (i.fdiv j), S) else none
  | _, _ => none
def vPow : V2 := fun a b S => match a, b with
  | .int i, .int j => if CPow i j then some (.int (i ^ j.toNat), S) else none
  | _, _ => none
def vNeg : V1 := fun a S => match a with
  | .int i => some (.int (-i), S)
  | _ => none
section
variable {X : Cx}
theorem op_sub' : Op2 X (binaryOp .Sub) vSub := by
  intro pins s σ H x y v u Q I rx ry ⟨g, S, a, b, hS, r1, r2, p⟩
  cases a <;> cases b <;> try exact p.elim
  rename_i i j
  exact op_sub pins s σ H x y v u Q I rx ry ⟨i, j, r1, r2, p.now hS rfl⟩
theorem op_mod' : Op2 X (binaryOp .Mod) vMod := by
  intro pins s σ H x y v u Q I rx ry ⟨g, S, a, b, hS, r1, r2, p⟩
  cases a <;> cases b <;> try exact p.elim
  rename_i i j
  unfold vMod at p
  simp only at p
  split at p
  · rename_i hj
    exact op_modN pins s σ H x y v u Q I rx ry ⟨i, j, r1, r2, hj, p.now hS rfl⟩
  · exact p.elim
theorem op_fdiv' : Op2 X (binaryOp .FloorDiv) vFDiv := by
  intro pins s σ H x y v u Q I rx ry ⟨g, S, a, b, hS, r1, r2, p⟩
  cases a <;> cases b <;> try exact p.elim
  rename_i i j
  unfold vFDiv at p
  simp only at p
  split at p
  · rename_i hj
    exact op_fdivN pins s σ H x y v u Q I rx ry ⟨i, j, r1, r2, hj, p.now hS rfl⟩
  · exact p.elim
theorem op_pow' : Op2 X (binaryOp .Pow) vPow := by
  intro pins s σ H x y v u Q I rx ry ⟨g, S, a, b, hS, r1, r2, p⟩
  cases a <;> cases b <;> try exact p.elim
  rename_i i j
  unfold vPow at p
  simp only at p
  split at p
  · rename_i hj
    exact op_pow pins s σ H x y v u Q I rx ry ⟨i, j, r1, r2, hj, p.now hS rfl⟩
  · exact p.elim
theorem un_neg' : Un1 X (unaryOp .USub) vNeg := by
  intro pins s σ H x v Q I rx ⟨g, S, a, hS, r1, p⟩
  cases a <;> try exact p.elim
  rename_i i
  exact un_neg pins s σ H x v Q I rx ⟨i, r1, p.now hS rfl⟩
/-- xs + ys, lists that are read -/
theorem op_catL : OpR X (binaryOp .Add) (fun x y H Q => ∃ l b xs zs, x = .ref l ∧ y = .ref b ∧ LsQ X.K H l xs ∧ LsQ X.K H b zs ∧ xs.length + zs.length ≤ sizeLine ∧ ∀ p, H p = none → Q (.ref p) (upd H p (.lst (xs ++ zs)))) := by
  intro pins s σ H x y v u Q I rx ry h
  obtain ⟨l, b, xs, zs, rfl, rfl, hH, hB, hz, q⟩ := h
  cases rx
  cases ry
  obtain ⟨its, n, z, r, e⟩ := hH.obj I
  obtain ⟨its2, n2, z2, r2, e2⟩ := hB.obj I
  have hl := r.length
  have hl2 := r2.length
  refine PySem.P.add_list e e2 ?_ (by rw [List.size_toArray, List.size_toArray]; omega)
  have ea : its.toArray ++ its2.toArray = (its ++ its2).toArray := by simp
  rw [ea]
  exact ⟨.ref _, _, I.lnew (t' := s.toks) (r.append r2) (by rw [List.length_append]; omega), rfl, q _ I.fresh⟩
theorem catL_use {g : Gh} {S : Sto} {a b : PV} {xs ys : List PV} {x y : V} {Q : VK} {H : Hp} (hS : RepS X.K X.mp g S H) (r1 : RepV X.K g a x) (r2 : RepV X.K g b y) (e1 : listOf S a = some xs) (e2 : listOf S b = some ys)
    (p : PostO X g (RepV X.K) (if xs.length + ys.length ≤ sizeLine then some (.lst (xs ++ ys), S) else none) Q) :
    ∃ l b xs zs, x = .ref l ∧ y = .ref b ∧ LsQ X.K H l xs ∧ LsQ X.K H b zs ∧ xs.length + zs.length ≤ sizeLine ∧ ∀ p, H p = none → Q (.ref p) (upd H p (.lst (xs ++ zs))) := by
  split at p
  · rename_i hl
    obtain ⟨l, vs, q1, q2, q3⟩ := hS.list r1 e1
    obtain ⟨m, ws, q4, q5, q6⟩ := hS.list r2 e2
    exact ⟨l, m, vs, ws, q1, q4, q2, q5, by rw [← q3.length, ← q6.length]; exact hl, p.lst hS (q3.append q6)⟩
  · exact p.elim
theorem op_add' : Op2 X (binaryOp .Add) vAdd := by
  intro pins s σ H x y v u Q I rx ry ⟨g, S, a, b, hS, r1, r2, p⟩
  have lists : ∀ xs ys, listOf S a = some xs → listOf S b = some ys → PostO X g (RepV X.K) (if xs.length + ys.length ≤ sizeLine then some (PV.lst (xs ++ ys), S) else none) Q →
      wpAny (model X.prog X.w) X.A (binaryOp .Add v u) (EP X pins σ Q) X.xe s := fun xs ys e1 e2 p => op_catL pins s σ H x y v u Q I rx ry (catL_use hS r1 r2 e1 e2 p)
  unfold vAdd at p
  split at p
  · rename_i i j
    exact op_add pins s σ H x y v u Q I rx ry ⟨i, j, r1, r2, p.now hS rfl⟩
  · rename_i z w
    split at p
    · rename_i hl
      exact op_add_str pins s σ H x y v u Q I rx ry ⟨z, w, r1, r2, hl, p.now hS rfl⟩
    · exact p.elim
  · rename_i xs ys
    split at p
    · rename_i hl
      obtain ⟨l, vs, q1, q2, q3⟩ := r1
      obtain ⟨m, ws, q4, q5, q6⟩ := r2
      refine op_catA pins s σ H x y v u Q I rx ry ⟨l, m, vs, ws, q1, q4, SqT.mono hS.fz q2, SqT.mono hS.fz q5, by rw [← q3.length, ← q6.length]; exact hl, fun e => ?_, fun _ e => ?_, fun _ _ => p.tup hS (q3.append q6)⟩
      · subst e
        have hx : xs = [] := List.eq_nil_of_length_eq_zero q3.length
        subst hx
        exact p.now hS ⟨m, ws, rfl, q5, q6⟩
      · subst e
        have hy : ys = [] := List.eq_nil_of_length_eq_zero q6.length
        subst hy
        refine p.now hS ⟨l, vs, rfl, q2, ?_⟩
        simpa using q3
    · exact p.elim
  · split at p
    · rename_i xs ys e1 e2
      exact lists xs ys e1 e2 p
    · exact p.elim
theorem op_repL : OpR X (binaryOp .Mult) (fun x y H Q => ∃ l k xs, x = .ref l ∧ y = .int k ∧ LsQ X.K H l xs ∧ -(2 ^ 63) ≤ k ∧ k < 2 ^ 63 ∧ xs.length * k.toNat ≤ sizeLine ∧
  ∀ p, H p = none → Q (.ref p) (upd H p (.lst (List.replicate k.toNat xs).flatten))) := by
  intro pins s σ H x y v u Q I rx ry h
  obtain ⟨l, k, xs, rfl, rfl, hH, h1, h2, hz, q⟩ := h
  cases rx
  obtain ⟨t, rfl⟩ := ry
  obtain ⟨its, n, z, r, e⟩ := hH.obj I
  have hl := r.length
  have hlen : its.toArray.size * k.toNat ≤ sizeLine := by rw [List.size_toArray, ← hl]; exact hz
  have hcap : ¬ its.toArray.size * k.toNat > (2 ^ 63 - 1) / 8 := by
    have : (sizeLine : Nat) ≤ (2 ^ 63 - 1) / 8 := by decide
    omega
  have hfit : ¬ (!Builtin.List.listFitsIndex k) = true := by
    rw [fitsIndex_both h1 h2]
    exact Bool.false_ne_true
  have hlong : ¬ Builtin.List.listTooLong (its.toArray.size * k.toNat) = true := by
    rw [notLongL hlen]
    exact Bool.false_ne_true
  have hnew : List.foldl (fun x1 x2 => x1 ++ x2) #[] (List.replicate (if its.toArray.isEmpty = true then 0 else k.toNat) its.toArray) = (List.replicate k.toNat its).flatten.toArray := by
    have f0 : ∀ m : Nat, List.foldl (fun x1 x2 => x1 ++ x2) #[] (List.replicate m its.toArray) = (List.replicate m its).flatten.toArray := fun m => by
      have := foldl_rep its m []
      rw [List.nil_append] at this
      exact this
    rw [f0]
    cases its with
    | nil => simp
    | cons a r' => rw [if_neg (by simp)]
  refine wpAny_binaryOp_repeat_ref (T := "list") (U := "int") (by decide) ⟨_, e, rfl⟩ (fun s' => typeIs_int s' k t) noFill_list_mul F.fills_int_mul F.slot_int_rmul repeat_list F.slot_int_index.lookup
    (call_meets F.slot_int_rmul (typeIs_int s k t) F.entry_int_rmul (F.args_int_rmul_2 _ _) (int___rmul___int_list k t l its.toArray n)
      ⟨e, rfl, ⟨_, e, rfl⟩, call_meets F.slot_list_mul ⟨_, e, rfl⟩ F.entry_list_mul (F.args_list_mul_2 _ _) (AutoListH.list___mul___list_int_3 l its.toArray n k t hfit hcap hlong) ⟨e, ?_⟩⟩)
  rw [hnew]
  exact ⟨.ref _, _, I.lnew (t' := s.toks) (r.rep k.toNat) (by rw [PyProof.Rows.lm_len_rep_flat, Nat.mul_comm]; exact hz), rfl, q _ I.fresh⟩
theorem RepVs.rep {K : PySem.W.Frag} {g : Gh} {xs : List PV} {vs : List V} (h : RepVs K g xs vs) : ∀ n : Nat, RepVs K g (List.replicate n xs).flatten (List.replicate n vs).flatten
  | 0 => .nil
  | n + 1 => by rw [List.replicate_succ, List.replicate_succ, List.flatten_cons, List.flatten_cons]; exact h.append (RepVs.rep h n)
theorem op_mul' : Op2 X (binaryOp .Mult) vMul := by
  intro pins s σ H x y v u Q I rx ry ⟨g, S, a, b, hS, r1, r2, p⟩
  unfold vMul at p
  split at p
  · rename_i i j
    split at p
    · rename_i hc
      exact op_mul pins s σ H x y v u Q I rx ry ⟨i, j, r1, r2, hc, p.now hS rfl⟩
    · exact p.elim
  · rename_i xs k
    split at p
    · rename_i hc
      obtain ⟨h1, h2, h3, h4⟩ := hc
      obtain ⟨l, vs, q1, q2, q3⟩ := r1
      have hvs : vs ≠ [] := fun e => h1 (by subst e; exact List.eq_nil_of_length_eq_zero q3.length)
      exact op_repT pins s σ H x y v u Q I rx ry ⟨l, k, vs, q1, r2, SqT.mono hS.fz q2, hvs, h2, h3, by rw [← q3.length]; exact h4, p.tup hS (q3.rep _)⟩
    · exact p.elim
  · rename_i k _ _
    split at p
    · rename_i xs e1
      split at p
      · rename_i hc
        obtain ⟨h1, h2, h3⟩ := hc
        obtain ⟨l, vs, q1, q2, q3⟩ := hS.list r1 e1
        exact op_repL pins s σ H x y v u Q I rx ry ⟨l, k, vs, q1, r2, q2, h1, h2, by rw [← q3.length]; exact h3, p.lst hS (q3.rep _)⟩
      · exact p.elim
    · exact p.elim
  · exact p.elim
end

/-! ### == != in, not in, order, is None -/
def vEq : V2 := fun a b S => match dOf S a, dOf S b with
  | some d, some e => if SeqAt.shaped d = true ∧ SeqAt.shaped e = true then some (.bl (PyData.eqv d e), S) else none
  | _, _ => none
def vNe : V2 := fun a b S => match dOf S a, dOf S b with
  | some d, some e => if SeqAt.shaped d = true ∧ SeqAt.shaped e = true then some (.bl (!PyData.eqv d e), S) else none
  | _, _ => none
def vLt : V2 := fun a b S => match a, b with
  | .int i, .int j => some (.bl (decide (i < j)), S)
  | _, _ => none
def vLe : V2 := fun a b S => match a, b with
  | .int i, .int j => some (.bl (decide (i ≤ j)), S)
  | _, _ => none
def vGt : V2 := fun a b S => match a, b with
  | .int i, .int j => some (.bl (decide (j < i)), S)
  | _, _ => none
def vGe : V2 := fun a b S => match a, b with
  | .int i, .int j => some (.bl (decide (j ≤ i)), S)
  | _, _ => none
/-- b in a's way: the answer -/
def inAns (S : Sto) (a b : PV) : Option Bool := match a, b with
  | .str x, .str y => some (!(Builtin.Str.occurrences y x 0 y.length 1).isEmpty)
  | a, b => match dOf S a, dOf S b with
    | some d, some (.list ds) => if SeqAt.shaped d = true ∧ SeqAt.shaped (.list ds) = true then some (ds.any fun z => PyData.eqv z d) else none
    | some d, some (.tuple ds) => if SeqAt.shaped d = true ∧ SeqAt.shaped (.tuple ds) = true then some (ds.any fun z => PyData.eqv z d) else none
    | _, _ => none
def vIn : V2 := fun a b S => (inAns S a b).map fun k => (.bl k, S)
def vNotIn : V2 := fun a b S => (inAns S a b).map fun k => (.bl (!k), S)
def vIsN : V2 := fun a b S => match a, b with
  | .non, .non => some (.bl true, S)
  | _, .non => some (.bl false, S)
  | _, _ => none
def vIsNotN : V2 := fun a b S => match a, b with
  | .non, .non => some (.bl false, S)
  | _, .non => some (.bl true, S)
  | _, _ => none
section
variable {X : Cx}
theorem op_eq' (hu : X.A.units + 64 < cLine) : Op2 X (compareOp .Eq) vEq := by
  intro pins s σ H x y v u Q I rx ry ⟨g, S, a, b, hS, r1, r2, p⟩
  unfold vEq at p
  split at p
  · rename_i d e h1 h2
    split at p
    · rename_i hc
      exact op_eqD hu pins s σ H x y v u Q I rx ry ⟨d, e, hS.data r1 h1, hS.data r2 h2, hc.1, hc.2, p.now hS rfl⟩
    · exact p.elim
  · exact p.elim
theorem op_ne' (hu : X.A.units + 64 < cLine) : Op2 X (compareOp .NotEq) vNe := by
  intro pins s σ H x y v u Q I rx ry ⟨g, S, a, b, hS, r1, r2, p⟩
  unfold vNe at p
  split at p
  · rename_i d e h1 h2
    split at p
    · rename_i hc
      exact op_neD hu pins s σ H x y v u Q I rx ry ⟨d, e, hS.data r1 h1, hS.data r2 h2, hc.1, hc.2, p.now hS rfl⟩
    · exact p.elim
  · exact p.elim
theorem op_lt' : Op2 X (compareOp .Lt) vLt := by
  intro pins s σ H x y v u Q I rx ry ⟨g, S, a, b, hS, r1, r2, p⟩
  cases a <;> cases b <;> try exact p.elim
  rename_i i j
  exact op_lt pins s σ H x y v u Q I rx ry ⟨i, j, r1, r2, p.now hS rfl⟩
theorem op_le' : Op2 X (compareOp .LtE) vLe := by
  intro pins s σ H x y v u Q I rx ry ⟨g, S, a, b, hS, r1, r2, p⟩
  cases a <;> cases b <;> try exact p.elim
  rename_i i j
  exact op_le pins s σ H x y v u Q I rx ry ⟨i, j, r1, r2, p.now hS rfl⟩
theorem op_gt' : Op2 X (compareOp .Gt) vGt := by
  intro pins s σ H x y v u Q I rx ry ⟨g, S, a, b, hS, r1, r2, p⟩
  cases a <;> cases b <;> try exact p.elim
  rename_i i j
  exact op_gt pins s σ H x y v u Q I rx ry ⟨i, j, r1, r2, p.now hS rfl⟩
theorem op_ge' : Op2 X (compareOp .GtE) vGe := by
  intro pins s σ H x y v u Q I rx ry ⟨g, S, a, b, hS, r1, r2, p⟩
  cases a <;> cases b <;> try exact p.elim
  rename_i i j
  exact op_ge pins s σ H x y v u Q I rx ry ⟨i, j, r1, r2, p.now hS rfl⟩
theorem room_inT {A : Around} {d : PyData} {ds : List PyData} (h : SeqAt.shaped d = true) (hu : A.units + 65 < cLine) : A.units + 1 + min (PyData.depthAll ds) d.depth < cLine := by
  have h1 := SeqAt.depth_of_shaped h
  have h2 : min (PyData.depthAll ds) d.depth ≤ d.depth := Nat.min_le_right _ _
  omega
theorem op_in' (hu : X.A.units + 65 < cLine) : Op2 X (compareOp .In) vIn := by
  intro pins s σ H x y v u Q I rx ry ⟨g, S, a, b, hS, r1, r2, p⟩
  unfold vIn inAns at p
  split at p
  · rename_i z w
    exact op_in_str pins s σ H x y v u Q I rx ry ⟨z, w, r1, r2, p.now hS rfl⟩
  · split at p
    · rename_i d ds h1 h2
      split at p
      · rename_i hc
        exact op_inD hu pins s σ H x y v u Q I rx ry ⟨d, ds, hS.data r1 h1, hS.data r2 h2, hc.1, hc.2, p.now hS rfl⟩
      · exact p.elim
    · rename_i d ds h1 h2
      split at p
      · rename_i hc
        obtain ⟨as, q1⟩ := Dp.reads I d x v (hS.data r1 h1) rx
        obtain ⟨bs, q2⟩ := Dp.reads I (.tuple ds) y u (hS.data r2 h2) ry
        exact SeqAt.in_tuple_reads q2 q1 (SeqAt.canLay_of_shaped hc.2) (SeqAt.canLay_of_shaped hc.1) (room_inT hc.1 hu) ⟨.bl _, H, I, rfl, p.now hS rfl⟩
      · exact p.elim
    · exact p.elim
theorem op_notIn' (hu : X.A.units + 65 < cLine) : Op2 X (compareOp .NotIn) vNotIn := by
  intro pins s σ H x y v u Q I rx ry ⟨g, S, a, b, hS, r1, r2, p⟩
  unfold vNotIn inAns at p
  split at p
  · rename_i z w
    exact op_notin_str pins s σ H x y v u Q I rx ry ⟨z, w, r1, r2, p.now hS rfl⟩
  · split at p
    · rename_i d ds h1 h2
      split at p
      · rename_i hc
        exact op_notInD hu pins s σ H x y v u Q I rx ry ⟨d, ds, hS.data r1 h1, hS.data r2 h2, hc.1, hc.2, p.now hS rfl⟩
      · exact p.elim
    · rename_i d ds h1 h2
      split at p
      · rename_i hc
        obtain ⟨as, q1⟩ := Dp.reads I d x v (hS.data r1 h1) rx
        obtain ⟨bs, q2⟩ := Dp.reads I (.tuple ds) y u (hS.data r2 h2) ry
        exact SeqAt.notIn_tuple_reads q2 q1 (SeqAt.canLay_of_shaped hc.2) (SeqAt.canLay_of_shaped hc.1) (room_inT hc.1 hu) ⟨.bl _, H, I, rfl, p.now hS rfl⟩
      · exact p.elim
    · exact p.elim
/-- a value is None exactly if it stands for None -/
theorem repV_non {g : Gh} {a : PV} {x : V} (r : RepV X.K g a x) : decide (x = .non) = (match a with
  | .non => true
  | _ => false) := by
  cases a with
  | non => cases (show x = V.non from r); rfl
  | bl b => cases (show x = V.bl b from r); rfl
  | int i => cases (show x = V.int i from r); rfl
  | str z => cases (show x = V.str z from r); rfl
  | tup xs => obtain ⟨p, vs, e, _⟩ := r; subst e; rfl
  | lst xs => obtain ⟨p, vs, e, _⟩ := r; subst e; rfl
  | ref n => obtain ⟨p, e, _⟩ := r; subst e; rfl
theorem op_isN' : Op2 X (compareOp .Is) vIsN := by
  intro pins s σ H x y v u Q I rx ry ⟨g, S, a, b, hS, r1, r2, p⟩
  have e := repV_non r1
  refine op_isN pins s σ H x y v u Q I rx ry ?_
  unfold vIsN at p
  cases b <;> (cases a <;> first | exact p.elim | (refine ⟨r2, ?_⟩; rw [e]; exact p.now hS rfl))
theorem op_notN' : Op2 X (compareOp .IsNot) vIsNotN := by
  intro pins s σ H x y v u Q I rx ry ⟨g, S, a, b, hS, r1, r2, p⟩
  have e := repV_non r1
  refine op_notN pins s σ H x y v u Q I rx ry ?_
  unfold vIsNotN at p
  cases b <;> (cases a <;> first | exact p.elim | (refine ⟨r2, ?_⟩; rw [e]; exact p.now hS rfl))
end

/-! ### subscripts, slices -/
def vItem : V2 := fun a b S => match b with
  | .int i => match a with
    | .str z => if z.length ≤ sizeLine then (atI z.cps.toList i).map fun c => (.str ⟨#[c]⟩, S) else none
    | a => match seqOf S a with
      | some xs => (atI xs i).map fun x => (x, S)
      | none => none
  | _ => none
theorem RepVs.at_ {K : PySem.W.Frag} {g : Gh} {xs : List PV} {vs : List V} (h : RepVs K g xs vs) {i : Int} {x : PV} (e : atI xs i = some x) : ∃ v, atI vs i = some v ∧ RepV K g x v := by
  unfold atI at e ⊢
  rw [← h.length]
  cases q : ixN xs.length i with
  | none => rw [q] at e; cases e
  | some j =>
    rw [q] at e
    exact h.get e
section
variable {X : Cx}
theorem ix_item : Ix2 X vItem := by
  intro value slice pins s σ H x y v u Q I rx ry ⟨g, S, a, b, hS, r1, r2, p⟩ hs
  cases b with
  | int i =>
    have other : ∀ xs, seqOf S a = some xs → PostO X g (RepV X.K) ((atI xs i).map fun x => (x, S)) Q → wpAny (model X.prog X.w) X.A (subscriptTail value slice v u) (EP X pins σ Q) X.xe s := fun xs h1 p => by
      obtain ⟨q, vs, e1, hq, rr⟩ := hS.seq r1 h1
      cases h2 : atI xs i with
      | none => rw [h2] at p; exact p.elim
      | some z =>
        rw [h2] at p
        obtain ⟨w, h3, r3⟩ := rr.at_ h2
        rcases hq with hq | hq
        · exact ix_list value slice pins s σ H x y v u Q I rx ry ⟨q, vs, i, w, e1, r2, hq, h3, p.now hS r3⟩ hs
        · exact ix_tup value slice pins s σ H x y v u Q I rx ry ⟨q, vs, i, w, e1, r2, hq, h3, p.now hS r3⟩ hs
    unfold vItem at p
    simp only at p
    split at p
    · rename_i z
      split at p
      · rename_i hz
        cases h2 : atI z.cps.toList i with
        | none => rw [h2] at p; exact p.elim
        | some c =>
          rw [h2] at p
          exact ix_str value slice pins s σ H x y v u Q I rx ry ⟨z, i, c, r1, r2, hz, h2, p.now hS rfl⟩ hs
      · exact p.elim
    · split at p
      · rename_i xs h1
        exact other xs h1 p
      · exact p.elim
  | _ => exact p.elim
def cutP (xs : List PV) (lo hi : Option Int) : List PV := (xs.drop (HT.sIx xs.length 0 lo)).take (HT.sIx xs.length xs.length hi - HT.sIx xs.length 0 lo)
def vSl : VS := fun a lo hi S => match a with
  | .str z => if z.length ≤ sizeLine then some (.str (cutS z lo hi), S) else none
  | .tup xs => some (.tup (cutP xs lo hi), S)
  | a => match listOf S a with
    | some xs => some (.lst (cutP xs lo hi), S)
    | none => none
theorem cut_whole {xs : List PV} {lo hi : Option Int} (h : HT.sIx xs.length 0 lo = 0 ∧ HT.sIx xs.length xs.length hi = xs.length) : cutP xs lo hi = xs := by
  unfold cutP
  rw [h.1, h.2]
  simp

theorem sl_any : SlR X (rVS X vSl) := by
  intro pins s σ H x v vl vu lo hi sl Q I rx hs pl pu ⟨g, S, a, hS, r1, p⟩
  unfold vSl at p
  split at p
  · rename_i z
    split at p
    · rename_i hz
      exact sl_str pins s σ H x v vl vu lo hi sl Q I rx hs pl pu ⟨z, r1, hz, p.now hS rfl⟩
    · exact p.elim
  · rename_i xs
    obtain ⟨l, vs, q1, q2, q3⟩ := id r1
    refine sl_tupA pins s σ H x v vl vu lo hi sl Q I rx hs pl pu ⟨l, vs, q1, SqT.mono hS.fz q2, fun hw => ?_, fun _ => p.tup hS (q3.cut lo hi)⟩
    rw [← q3.length] at hw
    rw [cut_whole hw] at p
    exact p.now hS ⟨l, vs, rfl, q2, q3⟩
  · split at p
    · rename_i xs e1
      obtain ⟨l, vs, q1, q2, q3⟩ := hS.list r1 e1
      exact sl_list pins s σ H x v vl vu lo hi sl Q I rx hs pl pu ⟨l, vs, q1, q2.sq, p.lst hS (q3.cut lo hi)⟩
    · exact p.elim
end

/-! ### built-ins by values -/
def vLen : VN := fun as S => match as with
  | [.str z] => if z.length ≤ sizeLine then some (.int z.length, S) else none
  | [a] => (seqOf S a).map fun xs => (.int xs.length, S)
  | _ => none
def vTuple : VN := fun as S => match as with
  | [.tup xs] => some (.tup xs, S)
  | [a] => (listOf S a).map fun xs => (.tup xs, S)
  | _ => none
def vList : VN := fun as S => match as with
  | [a] => (seqOf S a).map fun xs => (.lst xs, S)
  | _ => none
def vListNew : VN := fun as S => match as with
  | [a] => (seqOf S a).map fun xs => (.ref S.length, S ++ [.lst xs])
  | _ => none
def intsOf : List PV → Option (List Int)
  | [] => some []
  | .int i :: xs => (intsOf xs).map (i :: ·)
  | _ => none
def blsOf : List PV → Option (List Bool)
  | [] => some []
  | .bl b :: xs => (blsOf xs).map (b :: ·)
  | _ => none
def strsOf : List PV → Option (List Str)
  | [] => some []
  | .str b :: xs => (strsOf xs).map (b :: ·)
  | _ => none
def vSum : VN := fun as S => match as with
  | [a] => (listOf S a).bind fun xs => (intsOf xs).map fun ns => (.int ns.sum, S)
  | _ => none
def vAll : VN := fun as S => match as with
  | [a] => (listOf S a).bind fun xs => (blsOf xs).map fun bs => (.bl (bs.all id), S)
  | _ => none
def vAny : VN := fun as S => match as with
  | [a] => (listOf S a).bind fun xs => (blsOf xs).map fun bs => (.bl (bs.any id), S)
  | _ => none
def vMax2 : VN := fun as S => match as with
  | [.int i, .int j] => some (.int (if j > i then j else i), S)
  | _ => none
def vMin2 : VN := fun as S => match as with
  | [.int i, .int j] => some (.int (if j < i then j else i), S)
  | _ => none
def vInt : VN := fun as S => match as with
  | [.int i] => some (.int i, S)
  | [.bl k] => some (.int (if k then 1 else 0), S)
  | _ => none
section
variable {K : PySem.W.Frag} {g : Gh}
theorem ints_rep : ∀ {xs : List PV} {vs : List V} {ns : List Int}, RepVs K g xs vs → intsOf xs = some ns → vs = ns.map V.int
  | [], _, _, r, h => by cases (show _ = [] from r); cases (show some _ = some _ from h); rfl
  | x :: xs, _, ns, r, h => by
    obtain ⟨v, vr, e, r1, r2⟩ := r
    subst e
    cases x with
    | int i =>
      have h' : (intsOf xs).map (i :: ·) = some ns := h
      cases q : intsOf xs with
      | none => rw [q] at h'; cases h'
      | some ms =>
        rw [q] at h'; cases h'
        rw [ints_rep r2 q, (show v = V.int i from r1)]; rfl
    | _ => cases h
theorem bls_rep : ∀ {xs : List PV} {vs : List V} {ns : List Bool}, RepVs K g xs vs → blsOf xs = some ns → vs = ns.map V.bl
  | [], _, _, r, h => by cases (show _ = [] from r); cases (show some _ = some _ from h); rfl
  | x :: xs, _, ns, r, h => by
    obtain ⟨v, vr, e, r1, r2⟩ := r
    subst e
    cases x with
    | bl i =>
      have h' : (blsOf xs).map (i :: ·) = some ns := h
      cases q : blsOf xs with
      | none => rw [q] at h'; cases h'
      | some ms =>
        rw [q] at h'; cases h'
        rw [bls_rep r2 q, (show v = V.bl i from r1)]; rfl
    | _ => cases h
theorem strs_rep : ∀ {xs : List PV} {vs : List V} {ns : List Str}, RepVs K g xs vs → strsOf xs = some ns → vs = ns.map V.str
  | [], _, _, r, h => by cases (show _ = [] from r); cases (show some _ = some _ from h); rfl
  | x :: xs, _, ns, r, h => by
    obtain ⟨v, vr, e, r1, r2⟩ := r
    subst e
    cases x with
    | str i =>
      have h' : (strsOf xs).map (i :: ·) = some ns := h
      cases q : strsOf xs with
      | none => rw [q] at h'; cases h'
      | some ms =>
        rw [q] at h'; cases h'
        rw [strs_rep r2 q, (show v = V.str i from r1)]; rfl
    | _ => cases h
end
section
variable {X : Cx}
theorem RepVs.one {K : PySem.W.Frag} {g : Gh} {a : PV} {vs : List V} (r : RepVs K g [a] vs) : ∃ x, vs = [x] ∧ RepV K g a x := by
  obtain ⟨x, r', e, r1, r2⟩ := r
  cases (show r' = [] from r2)
  exact ⟨x, e, r1⟩
theorem RepVs.two {K : PySem.W.Frag} {g : Gh} {a b : PV} {vs : List V} (r : RepVs K g [a, b] vs) : ∃ x y, vs = [x, y] ∧ RepV K g a x ∧ RepV K g b y := by
  obtain ⟨x, r', e, r1, r2⟩ := r
  obtain ⟨y, e2, r3⟩ := RepVs.one r2
  subst e2
  exact ⟨x, y, e, r1, r3⟩
theorem cl_len : CallN X (.builtin "len") vLen := by
  intro pins s σ H xs us Q I r ⟨g, S, as, hS, rr, p⟩
  unfold vLen at p
  split at p
  · rename_i z
    obtain ⟨x, rfl, r1⟩ := rr.one
    split at p
    · rename_i hz
      exact call_len_str pins s σ H _ us Q I r ⟨z, by rw [(show x = V.str z from r1)], hz, p.now hS rfl⟩
    · exact p.elim
  · rename_i a _
    obtain ⟨x, rfl, r1⟩ := rr.one
    cases h : seqOf S a with
    | none => rw [h] at p; exact p.elim
    | some ys =>
      rw [h] at p
      obtain ⟨l, vs, q1, q2, q3⟩ := hS.seq r1 h
      subst q1
      exact call_len_seq pins s σ H _ us Q I r ⟨l, vs, rfl, q2, by rw [← q3.length]; exact p.now hS rfl⟩
  · exact p.elim
theorem cl_tuple : CallN X (.type "tuple") vTuple := by
  intro pins s σ H xs us Q I r ⟨g, S, as, hS, rr, p⟩
  unfold vTuple at p
  split at p
  · rename_i ys
    obtain ⟨x, rfl, r1⟩ := rr.one
    obtain ⟨l, vs, q1, q2, q3⟩ := id r1
    subst q1
    exact call_tuple_of pins s σ H _ us Q I r ⟨l, vs, rfl, .inr ⟨SqT.mono hS.fz q2, p.now hS r1⟩⟩
  · rename_i a _
    obtain ⟨x, rfl, r1⟩ := rr.one
    cases h : listOf S a with
    | none => rw [h] at p; exact p.elim
    | some ys =>
      rw [h] at p
      obtain ⟨l, vs, q1, q2, q3⟩ := hS.list r1 h
      subst q1
      exact call_tuple_of pins s σ H _ us Q I r ⟨l, vs, rfl, .inl ⟨q2.sq, p.tup hS q3⟩⟩
  · exact p.elim
theorem cl_list : CallN X (.type "list") vList := by
  intro pins s σ H xs us Q I r ⟨g, S, as, hS, rr, p⟩
  unfold vList at p
  split at p
  · rename_i a
    obtain ⟨x, rfl, r1⟩ := rr.one
    cases h : seqOf S a with
    | none => rw [h] at p; exact p.elim
    | some ys =>
      rw [h] at p
      obtain ⟨l, vs, q1, q2, q3⟩ := hS.seq r1 h
      subst q1
      exact call_list_of pins s σ H _ us Q I r ⟨l, vs, rfl, q2, p.lst hS q3⟩
  · exact p.elim
theorem cl_listNew : CallN X (.type "list") vListNew := by
  intro pins s σ H xs us Q I r ⟨g, S, as, hS, rr, p⟩
  unfold vListNew at p
  split at p
  · rename_i a
    obtain ⟨x, rfl, r1⟩ := rr.one
    cases h : seqOf S a with
    | none => rw [h] at p; exact p.elim
    | some ys =>
      rw [h] at p
      obtain ⟨l, vs, q1, q2, q3⟩ := hS.seq r1 h
      subst q1
      exact call_list_of pins s σ H _ us Q I r ⟨l, vs, rfl, q2, p.new hS q3⟩
  · exact p.elim
theorem cl_sum (hc : X.calm = true) : CallN X (.builtin "sum") vSum := by
  intro pins s σ H xs us Q I r ⟨g, S, as, hS, rr, p⟩
  unfold vSum at p
  split at p
  · rename_i a
    obtain ⟨x, rfl, r1⟩ := rr.one
    cases h : listOf S a with
    | none => rw [h] at p; exact p.elim
    | some ys =>
      cases h2 : intsOf ys with
      | none => rw [h] at p; simp only [Option.bind, h2] at p; exact p.elim
      | some ns =>
        rw [h] at p
        simp only [Option.bind, h2] at p
        obtain ⟨l, vs, q1, q2, q3⟩ := hS.list r1 h
        subst q1
        have e := ints_rep q3 h2
        subst e
        exact cr_sum hc pins s σ H _ us Q I r ⟨l, ns, rfl, q2.sq, p.now hS rfl⟩
  · exact p.elim
theorem cl_all (hc : X.calm = true) : CallN X (.builtin "all") vAll := by
  intro pins s σ H xs us Q I r ⟨g, S, as, hS, rr, p⟩
  unfold vAll at p
  split at p
  · rename_i a
    obtain ⟨x, rfl, r1⟩ := rr.one
    cases h : listOf S a with
    | none => rw [h] at p; exact p.elim
    | some ys =>
      cases h2 : blsOf ys with
      | none => rw [h] at p; simp only [Option.bind, h2] at p; exact p.elim
      | some ns =>
        rw [h] at p
        simp only [Option.bind, h2] at p
        obtain ⟨l, vs, q1, q2, q3⟩ := hS.list r1 h
        subst q1
        have e := bls_rep q3 h2
        subst e
        exact cr_all hc pins s σ H _ us Q I r ⟨l, ns, rfl, q2.sq, p.now hS rfl⟩
  · exact p.elim
theorem cl_any (hc : X.calm = true) : CallN X (.builtin "any") vAny := by
  intro pins s σ H xs us Q I r ⟨g, S, as, hS, rr, p⟩
  unfold vAny at p
  split at p
  · rename_i a
    obtain ⟨x, rfl, r1⟩ := rr.one
    cases h : listOf S a with
    | none => rw [h] at p; exact p.elim
    | some ys =>
      cases h2 : blsOf ys with
      | none => rw [h] at p; simp only [Option.bind, h2] at p; exact p.elim
      | some ns =>
        rw [h] at p
        simp only [Option.bind, h2] at p
        obtain ⟨l, vs, q1, q2, q3⟩ := hS.list r1 h
        subst q1
        have e := bls_rep q3 h2
        subst e
        exact cr_any hc pins s σ H _ us Q I r ⟨l, ns, rfl, q2.sq, p.now hS rfl⟩
  · exact p.elim
theorem cl_max2 (hc : X.calm = true) : CallN X (.builtin "max") vMax2 := by
  intro pins s σ H xs us Q I r ⟨g, S, as, hS, rr, p⟩
  unfold vMax2 at p
  split at p
  · rename_i i j
    obtain ⟨x, y, rfl, r1, r2⟩ := rr.two
    exact call_max2 hc pins s σ H _ us Q I r ⟨i, j, by rw [(show x = V.int i from r1), (show y = V.int j from r2)], p.now hS rfl⟩
  · exact p.elim
theorem cl_min2 (hc : X.calm = true) : CallN X (.builtin "min") vMin2 := by
  intro pins s σ H xs us Q I r ⟨g, S, as, hS, rr, p⟩
  unfold vMin2 at p
  split at p
  · rename_i i j
    obtain ⟨x, y, rfl, r1, r2⟩ := rr.two
    exact call_min2 hc pins s σ H _ us Q I r ⟨i, j, by rw [(show x = V.int i from r1), (show y = V.int j from r2)], p.now hS rfl⟩
  · exact p.elim
theorem cl_int : CallN X (.type "int") vInt := by
  intro pins s σ H xs us Q I r ⟨g, S, as, hS, rr, p⟩
  unfold vInt at p
  split at p
  · rename_i i
    obtain ⟨x, rfl, r1⟩ := rr.one
    exact call_int1 pins s σ H _ us Q I r (.inl ⟨i, by rw [(show x = V.int i from r1)], p.now hS rfl⟩)
  · rename_i i
    obtain ⟨x, rfl, r1⟩ := rr.one
    exact call_int1 pins s σ H _ us Q I r (.inr ⟨i, by rw [(show x = V.bl i from r1)], p.now hS rfl⟩)
  · exact p.elim

/-! ### isinstance of a built-in type -/
def tyName (S : Sto) : PV → Option String
  | .non => some "NoneType"
  | .bl _ => some "bool"
  | .int _ => some "int"
  | .str _ => some "str"
  | .tup _ => some "tuple"
  | .lst _ => some "list"
  | .ref n => match S[n]? with
    | some (.lst _) => some "list"
    | some (.dct _) => some "dict"
    | _ => none
theorem tyName_rep {K : PySem.W.Frag} {mg : MP} {g : Gh} {S : Sto} {H : Hp} {a : PV} {x : V} {t : String} (hS : RepS K mg g S H) (r : RepV K g a x) (h : tyName S a = some t) : TyX K H x (.type t) := by
  cases a with
  | non => cases h; cases (show x = V.non from r); exact .base .non
  | bl b => cases h; cases (show x = V.bl b from r); exact .base (.bl b)
  | int i => cases h; cases (show x = V.int i from r); exact .base (.int i)
  | str z => cases h; cases (show x = V.str z from r); exact .base (.str z)
  | tup xs =>
    cases h
    obtain ⟨p, vs, rfl, h1, _⟩ := r
    rcases SqT.mono hS.fz h1 with (q | ⟨o, q⟩) | ⟨o, its, n, q, c, _⟩
    · exact .base (.tup q)
    · exact .fTuple q
    · exact .kTuple q c
  | lst xs =>
    cases h
    obtain ⟨p, vs, rfl, h1, _⟩ := r
    rcases LsQ.mono hS.fz h1 with (q | ⟨o, q⟩) | ⟨its, n, q, _⟩
    · exact .base (.lst q)
    · exact .base (.frz q)
    · exact .kList q rfl
  | ref n =>
    obtain ⟨p, rfl, h1⟩ := r
    obtain ⟨so, h2⟩ := hS.at_ h1
    unfold tyName at h
    simp only [h2] at h
    have q := hS.ob n so p h2 h1
    cases so with
    | lst ys => cases h; obtain ⟨vs, q1, _⟩ := q; exact .base (.lst q1)
    | dct ys => cases h; obtain ⟨vs, q1, _⟩ := q; exact .base (.dK q1)
    | _ => cases h
def vIsInst (T : String) : V1 := fun a S => (tyName S a).bind fun t => (L2.kitB t T).map fun b => (.bl b, S)
theorem se_isinst {e : Expr} {te : Sx} {T : String} {x : Str} {p p2 pos : Pos} (he : PE X e (rdE X te)) (hg : Gl X "isinstance") (hm : X.mg "isinstance" = none) (hgT : Gl X x) (hmT : X.mg x = none) (hvT : bootBuiltins x = some (.type T)) (hnT : x ≠ "__name__" := by decide) (hdT : (x == ("__debug__" : Str)) = false := by decide)
    (hs : starEach [e, .Name x p2] X.env = (false, eval e X.env) :: starEach [.Name x p2] X.env := by rfl) :
    PE X (.Call (.Name "isinstance" p) [e, .Name x p2] [] pos) (rdE X (sx1 (vIsInst T) te)) := by
  refine (pe_callB (call_isi (X := X)) hg hm (by decide +kernel) (pa_cons he (pa_cons (pe_bltn (v := .ty T) hgT hmT hvT rfl hnT hdT) pa_nil) hs) (he := hs)).imp fun σ H Q h => ?_
  refine (rd1 h).mono fun y H1 ⟨g, S, a, hS, r, p⟩ => ?_
  unfold vIsInst at p
  cases h1 : tyName S a with
  | none => rw [h1] at p; exact p.elim
  | some t =>
    cases h2 : L2.kitB t T with
    | none => rw [h1] at p; simp only [Option.bind, h2] at p; exact p.elim
    | some b =>
      rw [h1] at p
      simp only [Option.bind, h2] at p
      exact ⟨y, .ty T, .type t, .type T, b, rfl, .ty T, tyName_rep hS r h1, kit_ty h2, p.now hS rfl⟩
end
end MX

end

section
/-! Loops, comprehensions, stores to items, methods, dicts. -/
namespace MX
open PySem PySem.Spec PyProof.Rows L2

/-! ### what is walked -/
/-- items that stand, or a list of the store as it stands at each turn (in pairs with its places) -/
inductive Src where
  | items (xs : List PV) | live (n : Nat) | liveE (n : Nat)
def enumP : Nat → List PV → List PV
  | _, [] => []
  | i, x :: xs => .tup [.int i, x] :: enumP (i + 1) xs
theorem enumP_get : ∀ (i : Nat) (xs : List PV) (k : Nat), (enumP i xs)[k]? = (xs[k]?).map fun x => PV.tup [.int ((i + k : Nat) : Int), x]
  | _, [], _ => by simp [enumP]
  | i, x :: xs, 0 => by simp [enumP]
  | i, x :: xs, k + 1 => by
    simp only [enumP, List.getElem?_cons_succ]
    rw [enumP_get (i + 1) xs k]
    have : i + 1 + k = i + (k + 1) := by omega
    rw [this]
theorem enumP_length : ∀ (i : Nat) (xs : List PV), (enumP i xs).length = xs.length
  | _, [] => rfl
  | i, x :: xs => by simp [enumP, enumP_length (i + 1) xs]
def srcGet : Src → Sto → Option (List PV)
  | .items xs, _ => some xs
  | .live n, S => listOf S (.ref n)
  | .liveE n, S => (listOf S (.ref n)).map (enumP 0)
abbrev Si := Sl → Sto → Out Src
/-- J walks the source -/
def JOk (X : Cx) (g : Gh) (src : Src) (J : It) : Prop := ∀ (i : Nat) (H : Hp) (g' : Gh) (S : Sto) (xs : List PV), g.lv g' → RepS X.K X.mp g' S H → srcGet src S = some xs →
  (xs.length ≤ i → J.stop i H) ∧ ∀ x, xs[i]? = some x → J.go i H ∧ ∀ v H', J.yld i H v H' → ∃ g2, g'.le g2 ∧ RepS X.K X.mp g2 S H' ∧ RepV X.K g2 x v
def rdI (X : Cx) (t : Si) : TI := fun σ H R => ∃ g sp S, RepS X.K X.mp g S H ∧ RepE X.K g sp σ ∧ Post X g (JOk X) (ExcT X g sp) (t sp S) R
theorem _root_.L2.PI.imp {X : Cx} {tg e : Expr} {t t' : TI} (h : PI X tg e t) (i : ∀ σ H R, t' σ H R → t σ H R) : PI X tg e t' := ⟨fun pins s σ H R I q => h.run pins s σ H R I (i _ _ _ q)⟩
theorem _root_.L2.PI.or {X : Cx} {tg e : Expr} {t t' : TI} (h : PI X tg e t) (h' : PI X tg e t') : PI X tg e (fun σ H R => t σ H R ∨ t' σ H R) := ⟨fun pins s σ H R I q => by
  rcases q with q | q
  · exact h.run pins s σ H R I q
  · exact h'.run pins s σ H R I q⟩
section
variable {X : Cx} {tg e : Expr} {te : Sx} {pos : Pos}
theorem JOk.lst {g : Gh} {a : Addr} {src : Src} (h : ∀ (g' : Gh) (S : Sto) (H : Hp) (xs : List PV), g.lv g' → RepS X.K X.mp g' S H → srcGet src S = some xs → ∃ vs, SqL X.K H a vs ∧ RepVs X.K g' xs vs) : JOk X g src (Itl X.K a) := fun i H g' S xs l hS e => by
  obtain ⟨vs, q1, q2⟩ := h g' S H xs l hS e
  refine ⟨fun hi => ⟨vs, q1, by rw [← q2.length]; exact hi⟩, fun x hx => ?_⟩
  obtain ⟨v, e1, r⟩ := q2.get hx
  refine ⟨⟨vs, v, q1, e1⟩, fun u H' ⟨e2, k⟩ => ?_⟩
  subst e2
  have := k vs q1
  rw [e1] at this; cases this
  exact ⟨g', .refl _, hS, r⟩
theorem JOk.tup {g : Gh} {a : Addr} {xs : List PV} {vs : List V} (h : SqT X.K g.fz a vs) (r : RepVs X.K g xs vs) : JOk X g (.items xs) (Itt X.K a) := fun i H g' S ys l hS e => by
  cases e
  have q1 : SqT X.K H a vs := SqT.mono (fun b o z => hS.fz b o (l.fz b o z)) h
  refine ⟨fun hi => ⟨vs, q1, by rw [← r.length]; exact hi⟩, fun x hx => ?_⟩
  obtain ⟨v, e1, r1⟩ := r.get hx
  refine ⟨⟨vs, v, q1, e1⟩, fun u H' ⟨e2, k⟩ => ?_⟩
  subst e2
  have := k vs q1
  rw [e1] at this; cases this
  exact ⟨g', .refl _, hS, RepV.monoV l _ _ r1⟩
def charsOf (z : Str) : List PV := z.cps.toList.map fun c => .str ⟨#[c]⟩
theorem JOk.str {g : Gh} {z : Str} : JOk X g (.items (charsOf z)) (Its z) := fun i H g' S ys l hS e => by
  cases e
  refine ⟨fun hi => (by have z2 := hi; simp [charsOf] at z2; exact z2), fun x hx => ?_⟩
  unfold charsOf at hx
  rw [List.getElem?_map] at hx
  cases q : z.cps.toList[i]? with
  | none => rw [q] at hx; cases hx
  | some c =>
    rw [q] at hx; cases hx
    have hi : i < z.cps.size := by simpa using (List.getElem?_eq_some_iff.mp q).1
    refine ⟨hi, fun u H' ⟨e2, c', e3, e4⟩ => ?_⟩
    subst e2 e4
    have : z.cps[i]? = some c := by simpa using q
    rw [this] at e3; cases e3
    exact ⟨g', .refl _, hS, rfl⟩
theorem JOk.rng {g : Gh} {lo : Int} {n : Nat} : JOk X g (.items ((List.range n).map fun i => .int (lo + (i : Nat)))) (Itr lo n) := fun i H g' S ys l hS e => by
  cases e
  refine ⟨fun hi => (by have z2 := hi; simp at z2; exact z2), fun x hx => ?_⟩
  rw [List.getElem?_map] at hx
  have hi : i < n := by
    have := (List.getElem?_eq_some_iff.mp (Option.map_eq_some_iff.mp hx).choose_spec.1).1
    simpa using this
  rw [List.getElem?_range hi] at hx
  cases hx
  exact ⟨hi, fun u H' ⟨e2, e3⟩ => by subst e2 e3; exact ⟨g', .refl _, hS, rfl⟩⟩
/-- a list, a tuple, a text -/
def srcOf (v : PV) (S1 : Sto) : Out Src := match v with
  | .tup xs => .ok (.items xs) S1
  | .lst xs => .ok (.items xs) S1
  | .str z => .ok (.items (charsOf z)) S1
  | .ref n => match listOf S1 (.ref n) with
    | some _ => .ok (.live n) S1
    | none => .stuck
  | _ => .stuck
def siSeq (te : Sx) : Si := fun sp S => (te sp S).bind srcOf
theorem si_seq (he : PE X e (rdE X te)) : PI X tg e (rdI X (siSeq te)) := by
  refine (((pi_list he).or (pi_tup he)).or (pi_str he)).imp fun σ H R ⟨g, sp, S, hS, hE, p⟩ => ?_
  have key := rdE.fst (ta := te) hS hE p
  cases h : te sp S with
  | exc x S1 =>
    refine .inl (.inl ⟨g, sp, S, hS, hE, ?_⟩)
    unfold siSeq at p
    rw [h] at p ⊢
    exact p
  | stuck =>
    unfold siSeq at p
    rw [h] at p
    exact p.elim
  | ok v S1 =>
    have go : ∀ (Q : VK), (∀ x H1, (∃ g1, g.le g1 ∧ RepS X.K X.mp g1 S1 H1 ∧ RepE X.K g1 sp σ ∧ RepV X.K g1 v x ∧ Post X g1 (JOk X) (ExcT X g1 sp) (srcOf v S1) R) → Q x H1) → rdE X te σ H Q := fun Q hQ => by
      refine ⟨g, sp, S, hS, hE, ?_⟩
      rw [h]
      intro x H1 g1 l1 q1 r1
      refine hQ x H1 ⟨g1, l1, q1, hE.mono l1, r1, ?_⟩
      unfold siSeq at p
      rw [h] at p
      exact (Post.imp (show Post X g (JOk X) (ExcT X g sp) (srcOf v S1) R from p) (fun x S' t => t.mono l1) fun _ _ q => q).le l1
    cases v with
    | tup xs =>
      refine .inl (.inr (go _ fun x H1 ⟨g1, l1, q1, e1, ⟨a, vs, ex, k1, k2⟩, p1⟩ => ⟨a, ex, ⟨vs, SqT.mono q1.fz k1⟩, p1 _ H1 g1 (.refl _) q1 (JOk.tup k1 k2)⟩))
    | lst xs =>
      refine .inl (.inl (go _ fun x H1 ⟨g1, l1, q1, e1, ⟨a, vs, ex, k1, k2⟩, p1⟩ => ⟨a, ex, ⟨vs, (LsQ.mono q1.fz k1).sq⟩, p1 _ H1 g1 (.refl _) q1 (JOk.lst fun g' S' H' ys l hS' e' => ?_)⟩))
      cases e'
      exact ⟨vs, (LsQ.mono (fun b o z => hS'.fz b o (l.fz b o z)) k1).sq, RepVs.monoV l _ _ k2⟩
    | str z =>
      exact .inr (go _ fun x H1 ⟨g1, l1, q1, e1, r1, p1⟩ => ⟨z, r1, p1 _ H1 g1 (.refl _) q1 JOk.str⟩)
    | ref n =>
      refine .inl (.inl (go _ fun x H1 ⟨g1, l1, q1, e1, r1, p1⟩ => ?_))
      obtain ⟨a, ex, em⟩ := id r1
      unfold srcOf at p1
      cases h2 : listOf S1 (.ref n) with
      | none => simp only [h2] at p1; exact p1.elim
      | some xs =>
        simp only [h2] at p1
        obtain ⟨a', vs, ex', k1, k2⟩ := q1.list r1 h2
        rw [ex] at ex'; cases ex'
        refine ⟨a, ex, ⟨vs, k1.sq⟩, p1 _ H1 g1 (.refl _) q1 (JOk.lst fun g' S' H' ys l hS' e' => ?_)⟩
        obtain ⟨a2, ws, ex2, k3, k4⟩ := hS'.list (RepV.monoV l _ _ r1) e'
        rw [ex] at ex2; cases ex2
        exact ⟨ws, k3.sq, k4⟩
    | _ =>
      unfold siSeq at p
      rw [h] at p
      exact p.elim
/-- range -/
def rngP (lo : Int) (n : Nat) : List PV := (List.range n).map fun i => .int (lo + (i : Nat))
/-- a bound that the kernel need not count out -/
def RngOk (j : Int) : Prop := Nat.ble j.natAbs 1000000000000 = true
instance (j : Int) : Decidable (RngOk j) := by unfold RngOk; infer_instance
theorem RngOk.h {j : Int} (q : RngOk j) : -(2 ^ 62) ≤ j ∧ j < 2 ^ 62 := by
  have h : j.natAbs ≤ 1000000000000 := Nat.le_of_ble_eq_true q
  omega
def siRange1 (ta : Sx) : Si := fun sp S => (ta sp S).bind fun v S1 => match v with
  | .int j => if RngOk j then .ok (.items (rngP 0 j.toNat)) S1 else .stuck
  | _ => .stuck
def siRange2 (ta tb : Sx) : Si := fun sp S => (ta sp S).bind fun v S1 => (tb sp S1).bind fun w S2 => match v, w with
  | .int i, .int j => if RngOk i ∧ RngOk j then .ok (.items (rngP i (j - i).toNat)) S2 else .stuck
  | _, _ => .stuck
variable {a b : Expr} {ta tb : Sx} {p : Pos}
theorem si_range1 (hg : Gl X "range") (hm : X.mg "range" = none) (ha : PE X a (rdE X ta)) (hs : starEach [a] X.env = [(false, eval a X.env)] := by rfl) : PI X tg (.Call (.Name "range" p) [a] [] pos) (rdI X (siRange1 ta)) :=
  (pi_range1 hg hm (pa_cons ha pa_nil (by rw [hs]; rfl)) hs).imp fun σ H R ⟨g, sp, S, hS, hE, p⟩ => by
    refine (rdE.fst hS hE p).mono fun x H1 ⟨v, g1, S1, l1, q1, e1, r1, p1⟩ => ?_
    cases v with
    | int j =>
      simp only at p1
      split at p1
      · rename_i hj
        refine ⟨j, by rw [(show x = V.int j from r1)], hj.h.1, hj.h.2, p1 _ H1 g1 (.refl _) q1 ?_⟩
        exact JOk.rng
      · exact p1.elim
    | _ => exact p1.elim
theorem si_range2 (hg : Gl X "range") (hm : X.mg "range" = none) (ha : PE X a (rdE X ta)) (hb : PE X b (rdE X tb)) (hs : starEach [a, b] X.env = [(false, eval a X.env), (false, eval b X.env)] := by rfl) (hs2 : starEach [b] X.env = [(false, eval b X.env)] := by rfl) :
    PI X tg (.Call (.Name "range" p) [a, b] [] pos) (rdI X (siRange2 ta tb)) :=
  (pi_range2 hg hm (pa_cons ha (pa_cons hb pa_nil (by rw [hs2]; rfl)) (by rw [hs, hs2])) hs hs2).imp fun σ H R ⟨g, sp, S, hS, hE, p⟩ => by
    refine (rdE.fst hS hE p).mono fun x H1 ⟨v, g1, S1, l1, q1, e1, r1, p1⟩ => ?_
    refine (rdE.fst q1 e1 p1).mono fun y H2 ⟨w, g2, S2, l2, q2, e2, r2, p2⟩ => ?_
    cases v with
    | int i =>
      cases w with
      | int j =>
        simp only at p2
        split at p2
        · rename_i hj
          refine ⟨i, j, by rw [(show x = V.int i from r1), (show y = V.int j from r2)], ⟨hj.1.h.1, hj.1.h.2, hj.2.h.1, hj.2.h.2⟩, p2 _ H2 g2 (.refl _) q2 ?_⟩
          exact JOk.rng
        · exact p2.elim
      | _ => exact p2.elim
    | _ => exact p2.elim
end

/-! ### for -/
def forG (get : Sto → Option (List PV)) (t : Sg) (b : Ss) : Nat → Nat → Sl → Sto → SOut
  | 0, i, sp, S => match get S with
    | none => .stuck
    | some xs => match xs[i]? with
      | none => .nx sp S
      | some _ => .stuck
  | f + 1, i, sp, S => match get S with
    | none => .stuck
    | some xs => match xs[i]? with
      | none => .nx sp S
      | some x => match t x sp S with
        | none => .stuck
        | some sp1 => match b sp1 S with
          | .nx sp2 S2 => forG get t b f (i + 1) sp2 S2
          | .ct sp2 S2 => forG get t b f (i + 1) sp2 S2
          | .bk sp2 S2 => .nx sp2 S2
          | .rt v S2 => .rt v S2
          | .exc x sp2 S2 => .exc x sp2 S2
          | .stuck => .stuck
/-- over items that stand -/
def forL (t : Sg) (b : Ss) : List PV → Sl → Sto → SOut
  | [], sp, S => .nx sp S
  | x :: xs, sp, S => match t x sp S with
    | none => .stuck
    | some sp1 => match b sp1 S with
      | .nx sp2 S2 => forL t b xs sp2 S2
      | .ct sp2 S2 => forL t b xs sp2 S2
      | .bk sp2 S2 => .nx sp2 S2
      | .rt v S2 => .rt v S2
      | .exc x sp2 S2 => .exc x sp2 S2
      | .stuck => .stuck
theorem forG_items (t : Sg) (b : Ss) : ∀ (ys pre : List PV) (sp : Sl) (S : Sto), forG (srcGet (.items (pre ++ ys))) t b ys.length pre.length sp S = forL t b ys sp S
  | [], pre, sp, S => by simp [forG, srcGet, forL]
  | y :: ys, pre, sp, S => by
    have h : (pre ++ y :: ys)[pre.length]? = some y := by simp
    have ih := fun sp2 S2 => forG_items t b ys (pre ++ [y]) sp2 S2
    have e : pre ++ [y] ++ ys = pre ++ y :: ys := by simp
    rw [e] at ih
    simp only [List.length_append, List.length_singleton] at ih
    show forG _ t b (ys.length + 1) pre.length sp S = _
    simp only [forG, srcGet, h, forL]
    cases t y sp S with
    | none => rfl
    | some sp1 =>
      simp only
      cases b sp1 S with
      | nx sp2 S2 => exact ih sp2 S2
      | ct sp2 S2 => exact ih sp2 S2
      | _ => rfl
def ssFor (ti : Si) (t : Sg) (b : Ss) : Ss := fun sp S => bindS (ti sp S) sp fun src S1 => match src with
  | .items xs => forL t b xs sp S1
  | src => match srcGet src S1 with
    | none => .stuck
    | some xs => forG (srcGet src) t b xs.length 0 sp S1
theorem ssFor_eq (ti : Si) (t : Sg) (b : Ss) (sp : Sl) (S : Sto) : ssFor ti t b sp S = bindS (ti sp S) sp fun src S1 => match srcGet src S1 with
    | none => .stuck
    | some xs => forG (srcGet src) t b xs.length 0 sp S1 := by
  unfold ssFor bindS
  cases ti sp S with
  | ok src S1 =>
    cases src with
    | items xs => exact (forG_items t b xs [] sp S1).symm
    | _ => rfl
  | _ => rfl
section
variable {X : Cx} {tg iter : Expr} {body : List Stmt} {ti : Si} {t : Sg} {b : Ss} {is : List Nat} {pos : Pos}
theorem ss_for (hp : PassesOwn (model X.prog X.w) X.A X.env X.xe) (hc : X.calm = true) (hi : PI X tg iter (rdI X ti)) (hg : PG X tg (rdG X is t)) (hb : PSs X body (rdS X b)) (hs : ∀ x, foldedSetIterable iter X.env x = pure x := by intro _; rfl) :
    PS X (.For tg iter body [] pos) (rdS X (ssFor ti t b)) := by
  refine (ps_for hp hc hi hg hb hs).imp fun D σ H ⟨g, sp, S, hS, hE, p⟩ => ?_
  rw [ssFor_eq] at p
  refine ⟨g, sp, S, hS, hE, (PostS.seq (R := JOk X) p).imp (fun _ _ x => x) fun J H1 ⟨src, g1, S1, l1, q1, jo, p1⟩ => ?_⟩
  refine ⟨fun i m σ H => ∃ g2 sp2 S2 f, g1.le g2 ∧ RepS X.K X.mp g2 S2 H ∧ RepE X.K g2 sp2 σ ∧ m = f ∧ PostS X g2 (forG (srcGet src) t b f i sp2 S2) D, ?_, ?_⟩
  · cases h : srcGet src S1 with
    | none => rw [h] at p1; exact p1.elim
    | some xs => rw [h] at p1; exact ⟨xs.length, g1, sp, S1, xs.length, .refl _, q1, hE.mono l1, rfl, p1⟩
  · rintro i m σ2 H2 ⟨g2, sp2, S2, f, l2, q2, e2, rfl, p2⟩
    cases h : srcGet src S2 with
    | none =>
      cases m <;> (simp only [forG, h] at p2; exact p2.elim)
    | some xs =>
      obtain ⟨jst, jgo⟩ := jo i H2 g2 S2 xs l2.lv q2 h
      cases hx : xs[i]? with
      | none =>
        refine .inl ⟨jst (List.getElem?_eq_none_iff.mp hx), ?_⟩
        cases m <;> (simp only [forG, h, hx] at p2; exact p2 σ2 H2 g2 (.refl _) q2 e2)
      | some x =>
        cases m with
        | zero => simp only [forG, h, hx] at p2; exact p2.elim
        | succ m =>
          simp only [forG, h, hx] at p2
          obtain ⟨go, yl⟩ := jgo x hx
          refine .inr ⟨go, fun σ' H' => ∃ g3 sp3 S3, g1.le g3 ∧ RepS X.K X.mp g3 S3 H' ∧ RepE X.K g3 sp3 σ' ∧ PostS X g3 (forG (srcGet src) t b m (i + 1) sp3 S3) D, fun σ' H' ⟨g3, sp3, S3, l3, q3, e3, p3⟩ => ⟨m, Nat.lt_succ_self _, g3, sp3, S3, m, l3, q3, e3, rfl, p3⟩, fun v H' y => ?_⟩
          obtain ⟨g3, l3, q3, r3⟩ := yl v H' y
          cases ht : t x sp2 S2 with
          | none => simp only [ht] at p2; exact p2.elim
          | some sp1 =>
            simp only [ht] at p2
            refine ⟨g3, sp2, S2, x, sp1, q3, e2.mono l3, r3, ht, fun σ4 g4 l4 q4 e4 _ => ⟨g4, sp1, S2, q4, e4, ?_⟩⟩
            have l24 := l3.trans l4
            cases hbo : b sp1 S2 with
            | nx sp5 S5 =>
              simp only [hbo] at p2
              exact fun σ5 H5 g5 l5 q5 e5 => ⟨g5, sp5, S5, (l2.trans l24).trans l5, q5, e5, p2.le (l24.trans l5)⟩
            | ct sp5 S5 =>
              simp only [hbo] at p2
              exact fun σ5 H5 g5 l5 q5 e5 => ⟨g5, sp5, S5, (l2.trans l24).trans l5, q5, e5, p2.le (l24.trans l5)⟩
            | bk sp5 S5 =>
              simp only [hbo] at p2
              exact fun σ5 H5 g5 l5 q5 e5 => p2 σ5 H5 g5 (l24.trans l5) q5 e5
            | rt w S5 =>
              simp only [hbo] at p2
              exact fun v5 H5 g5 l5 q5 r5 => p2 v5 H5 g5 (l24.trans l5) q5 r5
            | exc z sp5 S5 =>
              simp only [hbo] at p2
              exact ExcT.mono p2 l24
            | stuck => simp only [hbo] at p2; exact (show False from p2).elim
end

/-! ### while -/
def whileN (c : St') (b : Ss) : Nat → Sl → Sto → SOut
  | 0, _, _ => .stuck
  | f + 1, sp, S => bindS (c sp S) sp fun k S1 => if k = true then (match b sp S1 with
      | .nx sp2 S2 => whileN c b f sp2 S2
      | .ct sp2 S2 => whileN c b f sp2 S2
      | .bk sp2 S2 => .nx sp2 S2
      | .rt v S2 => .rt v S2
      | .exc x sp2 S2 => .exc x sp2 S2
      | .stuck => .stuck) else .nx sp S1
def ssWhile (f : Nat) (c : St') (b : Ss) : Ss := fun sp S => whileN c b f sp S
section
variable {X : Cx} {c : Expr} {body : List Stmt} {tc : St'} {b : Ss} {pos : Pos}
theorem ss_while (f : Nat) (hp : PassesOwn (model X.prog X.w) X.A X.env X.xe) (hc : PT X c (rdT X tc)) (hb : PSs X body (rdS X b)) : PS X (.While c body [] pos) (rdS X (ssWhile f tc b)) := by
  refine (ps_while hp hc hb).imp fun D σ H ⟨g, sp, S, hS, hE, p⟩ => ?_
  refine ⟨fun m σ H => ∃ g2 sp2 S2, RepS X.K X.mp g2 S2 H ∧ RepE X.K g2 sp2 σ ∧ PostS X g2 (whileN tc b m sp2 S2) D, ⟨f, g, sp, S, hS, hE, p⟩, ?_⟩
  rintro m σ2 H2 ⟨g2, sp2, S2, q2, e2, p2⟩
  cases m with
  | zero => exact p2.elim
  | succ m =>
    unfold whileN at p2
    refine (rdT.sq q2 e2 p2).mono fun k H1 ⟨g1, S1, l1, q1, e1, p1⟩ => ?_
    cases k with
    | false => exact iteF (p1 _ H1 g1 (.refl _) q1 e1)
    | true =>
      refine iteT ⟨fun σ' H' => ∃ g3 sp3 S3, RepS X.K X.mp g3 S3 H' ∧ RepE X.K g3 sp3 σ' ∧ PostS X g3 (whileN tc b m sp3 S3) D, fun σ' H' h => ⟨m, Nat.lt_succ_self _, h⟩, g1, sp2, S1, q1, e1, ?_⟩
      have p1 := (show PostS X g1 _ D from p1)
      simp only [if_true] at p1
      cases hbo : b sp2 S1 with
      | nx sp5 S5 =>
        simp only [hbo] at p1
        exact fun σ5 H5 g5 l5 q5 e5 => ⟨g5, sp5, S5, q5, e5, p1.le l5⟩
      | ct sp5 S5 =>
        simp only [hbo] at p1
        exact fun σ5 H5 g5 l5 q5 e5 => ⟨g5, sp5, S5, q5, e5, p1.le l5⟩
      | bk sp5 S5 => simp only [hbo] at p1; exact p1
      | rt w S5 => simp only [hbo] at p1; exact p1
      | exc z sp5 S5 => simp only [hbo] at p1; exact p1
      | stuck => simp only [hbo] at p1; exact (show False from p1).elim
end

/-! ### comprehensions -/
/-- a reading that lets no exception out, the same in every block -/
def rdE0 (X : Cx) (t : Sx) : TE := fun σ H Q => ∃ g sp S, RepS X.K X.mp g S H ∧ RepE X.K g sp σ ∧ Post X g (RepV X.K) (fun _ _ => False) (t sp S) Q
def rdT0 (X : Cx) (t : St') : TT := fun σ H Q => ∃ g sp S, RepS X.K X.mp g S H ∧ RepE X.K g sp σ ∧ Post X g (fun _ a b => a = b) (fun _ _ => False) (t sp S) Q
def rdI0 (X : Cx) (t : Si) : TI := fun σ H R => ∃ g sp S, RepS X.K X.mp g S H ∧ RepE X.K g sp σ ∧ Post X g (JOk X) (fun _ _ => False) (t sp S) R
theorem pe_0 {X : Cx} {e : Expr} {t : Sx} (h : PE X e (rdE X t)) : PE X e (rdE0 X t) := h.imp fun σ H Q ⟨g, sp, S, hS, hE, p⟩ => ⟨g, sp, S, hS, hE, p.imp (fun _ _ z => z.elim) fun _ _ q => q⟩
theorem pt_0 {X : Cx} {e : Expr} {t : St'} (h : PT X e (rdT X t)) : PT X e (rdT0 X t) := h.imp fun σ H Q ⟨g, sp, S, hS, hE, p⟩ => ⟨g, sp, S, hS, hE, p.imp (fun _ _ z => z.elim) fun _ _ q => q⟩
theorem pi_0 {X : Cx} {tg e : Expr} {t : Si} (h : PI X tg e (rdI X t)) : PI X tg e (rdI0 X t) := h.imp fun σ H Q ⟨g, sp, S, hS, hE, p⟩ => ⟨g, sp, S, hS, hE, p.imp (fun _ _ z => z.elim) fun _ _ q => q⟩
@[reducible] def Out.pure {α β : Type} (o : Out α) (f : α → Sto → Out β) : Out β := match o with
  | .ok a S => f a S
  | _ => .stuck
def stYes : St' := fun _ S => .ok true S
def wipeP (sp : Sl) : List Nat → Sl
  | [] => sp
  | v :: vs => (wipeP sp vs).set v none
def lcG (get : Sto → Option (List PV)) (sp : Sl) (t : Sg) (c : St') (te : Sx) : Nat → Nat → Sto → Out (List PV)
  | 0, i, S => match get S with
    | none => .stuck
    | some xs => match xs[i]? with
      | none => .ok [] S
      | some _ => .stuck
  | f + 1, i, S => match get S with
    | none => .stuck
    | some xs => match xs[i]? with
      | none => .ok [] S
      | some x => match t x sp S with
        | none => .stuck
        | some sp1 => (c sp1 S).pure fun k S1 => if k = true then (te sp1 S1).pure fun y S2 => (lcG get sp t c te f (i + 1) S2).pure fun ys S3 => .ok (y :: ys) S3
          else lcG get sp t c te f (i + 1) S1
def lcL (sp : Sl) (t : Sg) (c : St') (te : Sx) : List PV → Sto → Out (List PV)
  | [], S => .ok [] S
  | x :: xs, S => match t x sp S with
    | none => .stuck
    | some sp1 => (c sp1 S).pure fun k S1 => if k = true then (te sp1 S1).pure fun y S2 => (lcL sp t c te xs S2).pure fun ys S3 => .ok (y :: ys) S3
      else lcL sp t c te xs S1
theorem lcG_items (sp : Sl) (t : Sg) (c : St') (te : Sx) : ∀ (ys pre : List PV) (S : Sto), lcG (srcGet (.items (pre ++ ys))) sp t c te ys.length pre.length S = lcL sp t c te ys S
  | [], pre, S => by simp [lcG, srcGet, lcL]
  | y :: ys, pre, S => by
    have h : (pre ++ y :: ys)[pre.length]? = some y := by simp
    have ih := fun S2 => lcG_items sp t c te ys (pre ++ [y]) S2
    have e : pre ++ [y] ++ ys = pre ++ y :: ys := by simp
    rw [e] at ih
    simp only [List.length_append, List.length_singleton] at ih
    show lcG _ sp t c te (ys.length + 1) pre.length S = _
    simp only [lcG, srcGet, h, lcL]
    cases t y sp S with
    | none => rfl
    | some sp1 =>
      simp only
      cases c sp1 S with
      | ok k S1 =>
        simp only [Out.pure]
        cases k with
        | true =>
          simp only [if_true]
          cases te sp1 S1 with
          | ok v S2 => simp only; rw [ih]
          | _ => rfl
        | false =>
          simp only [Bool.false_eq_true, if_false]
          exact ih S1
      | _ => rfl
def lcRun (src : Src) (sp : Sl) (t : Sg) (c : St') (te : Sx) (S : Sto) : Out (List PV) := match src with
  | .items xs => lcL sp t c te xs S
  | src => match srcGet src S with
    | none => .stuck
    | some xs => lcG (srcGet src) sp t c te xs.length 0 S
theorem lcRun_eq (src : Src) (sp : Sl) (t : Sg) (c : St') (te : Sx) (S : Sto) : lcRun src sp t c te S = match srcGet src S with
    | none => .stuck
    | some xs => lcG (srcGet src) sp t c te xs.length 0 S := by
  cases src with
  | items xs => exact (lcG_items sp t c te xs [] S).symm
  | _ => rfl
/-- the list made, then frozen, or laid in the store -/
def fzL : VN := fun ys S => if ys.length ≤ sizeLine then some (.lst ys, S) else none
def nwL : VN := fun ys S => if ys.length ≤ sizeLine then some (.ref S.length, S ++ [.lst ys]) else none
def sxLc (fin : VN) (ti : Si) (vs : List Nat) (t : Sg) (c : St') (te : Sx) : Sx := fun sp S => (ti sp S).bind fun src S1 => (lcRun src (wipeP sp vs) t c te S1).pure fun ys S2 => .of (fin ys S2)
section
variable {K : PySem.W.Frag} {g : Gh}
theorem wipeP_length (sp : Sl) : ∀ vs : List Nat, (wipeP sp vs).length = sp.length
  | [] => rfl
  | v :: vs => by unfold wipeP; rw [List.length_set, wipeP_length sp vs]
theorem wipeP_some {sp : Sl} {i : Nat} {x : PV} : ∀ {vs : List Nat}, (wipeP sp vs)[i]? = some (some x) → sp[i]? = some (some x) ∧ i ∉ vs
  | [], h => ⟨h, by simp⟩
  | v :: vs, h => by
    unfold wipeP at h
    by_cases hi : v = i
    · subst hi
      by_cases hv : v < (wipeP sp vs).length
      · rw [List.getElem?_set_self hv] at h; cases h
      · rw [List.getElem?_eq_none (by simpa using hv)] at h; cases h
    · rw [List.getElem?_set_ne hi] at h
      obtain ⟨h1, h2⟩ := wipeP_some h
      exact ⟨h1, by simp only [List.mem_cons, not_or]; exact ⟨fun e => hi e.symm, h2⟩⟩
theorem RepE.wipe {sp : Sl} {σ : L2.St} (h : RepE K g sp σ) (vs : List Nat) : RepE K g (wipeP sp vs) (wipe σ vs) := by
  refine ⟨by rw [wipeP_length, wipe_length, h.len], fun i x e => ?_⟩
  obtain ⟨e1, hv⟩ := wipeP_some e
  obtain ⟨v, e2, r⟩ := h.get i x e1
  exact ⟨v, by rw [wipe_out hv]; exact e2, r⟩
theorem wipe_in {σ : L2.St} {i : Nat} (hi : i < σ.length) : ∀ {vs : List Nat}, i ∈ vs → (wipe σ vs)[i]? = some none
  | v :: vs, h => by
    unfold wipe
    by_cases e : v = i
    · subst e
      rw [List.getElem?_set_self (by rw [wipe_length]; exact hi)]
    · rw [List.getElem?_set_ne e]
      exact wipe_in hi (by simpa [Ne.symm e] using h)
theorem wipe_near {is vs : List Nat} {σ σ2 : L2.St} (n : Near is (wipe σ vs) σ2) (hv : ∀ i ∈ is, i ∈ vs) : wipe σ2 vs = wipe σ vs := by
  apply List.ext_getElem?
  intro i
  by_cases hl : i < σ.length
  · by_cases hi : i ∈ vs
    · rw [wipe_in hl hi, wipe_in (by rw [n.1, wipe_length]; exact hl) hi]
    · rw [wipe_out hi]
      exact n.2 i fun z => hi (hv i z)
  · rw [List.getElem?_eq_none (by rw [wipe_length, n.1, wipe_length]; omega), List.getElem?_eq_none (by rw [wipe_length]; omega)]
end
/-- what the end of a comprehension makes of the list -/
structure FinL (X : Cx) (fin : VN) : Prop where
  fit : ∀ ys S r, fin ys S = some r → ys.length ≤ sizeLine
  go : ∀ (g : Gh) (r0 : Hp) (S : Sto) (H : Hp) (ys : List PV) (vs : List V) (D : Addr) (Q : VK), RepS X.K X.mp g S H → g.rs D = some (.lst vs) → (∀ a u, r0 a = some u → a ≠ D ∧ g.rs a = some u) → RepVs X.K g ys vs →
    PostO X ⟨g.fz, g.m, r0, g.tb⟩ (RepV X.K) (fin ys S) Q → Q (.ref D) H
theorem fin_fz {X : Cx} : FinL X fzL := ⟨fun ys S r h => (by unfold fzL at h; split at h; assumption; cases h), fun g r0 S H ys vs D Q hS hD h0 r p => by
  unfold fzL at p
  split at p
  · obtain ⟨q1, q2⟩ := hS.letGo hD h0
    exact p (.ref D) H ⟨upd g.fz D (.lst vs), g.m, r0, g.tb⟩ ⟨q2.fz, q2.m, rfl, rfl⟩ q1 ⟨D, vs, rfl, .inl (.inl upd_same), RepVs.monoV q2 _ _ r⟩
  · exact p.elim⟩
theorem fin_nw {X : Cx} : FinL X nwL := ⟨fun ys S r h => (by unfold nwL at h; split at h; assumption; cases h), fun g r0 S H ys vs D Q hS hD h0 r p => by
  unfold nwL at p
  split at p
  · obtain ⟨q1, q2⟩ := hS.letIn hD h0 (so := .lst ys) ⟨vs, (hS.rs D _ hD).1, r⟩
    exact p (.ref D) H ⟨g.fz, g.m ++ [D], r0, g.tb⟩ ⟨q2.fz, q2.m, rfl, rfl⟩ q1 ⟨D, rfl, by show (g.m ++ [D])[S.length]? = some D; rw [← hS.len]; simp⟩
  · exact p.elim⟩
section
variable {X : Cx} {elt tg iter : Expr} {ifs : List Expr} {scope : Scope} {own : List (Str × Nat)} {pos : Pos} {ti : Si} {t : Sg} {is : List Nat} {tc : St'} {te : Sx} {fin : VN}
theorem Out.pure_ok {α β : Type} {o : Out α} {f : α → Sto → Out β} {r : Out β} (h : o.pure f = r) (hr : r ≠ .stuck) : ∃ a S, o = .ok a S ∧ f a S = r := by
  cases o with
  | ok a S => exact ⟨a, S, rfl, h⟩
  | exc x S => exact absurd h.symm hr
  | stuck => exact absurd h.symm hr
/-- the reading of a comprehension -/
theorem rdLc (hf : FinL X fin) (hv : ∀ i ∈ is, i ∈ own.map (·.2)) {σ : L2.St} {H : Hp} {Q : VK} (h : rdE X (sxLc fin ti (own.map (·.2)) t tc te) σ H Q) : tLc (rdI X ti) (rdG X is t) (rdT0 X tc) (rdE0 X te) (own.map (·.2)) σ H Q := by
  obtain ⟨g, sp, S, hS, hE, p⟩ := h
  refine ⟨g, sp, S, hS, hE, (Post.seq (R := JOk X) p).imp (fun _ _ x => x) fun J H1 ⟨src, g1, S1, l1, q1, jo, p1⟩ => ?_⟩
  intro D hD
  rw [lcRun_eq] at p1
  obtain ⟨vs, hvs⟩ : ∃ vs : List Nat, vs = own.map (·.2) := ⟨_, rfl⟩
  rw [← hvs] at p1 hv ⊢
  have hE1 := (hE.mono l1).wipe vs
  -- the state in the loop: acc is made, ys are to come
  refine ⟨fun i m H => ∃ g2 S2 acc ws f, g1.lv g2 ∧ (∃ r, g2.rs = upd r D (.lst ws) ∧ r = g1.rs) ∧ g2.tb = g1.tb ∧ RepS X.K X.mp g2 S2 H ∧ RepVs X.K g2 acc ws ∧ m = f ∧ ∃ ys S3, lcG (srcGet src) (wipeP sp vs) t tc te f i S2 = .ok ys S3 ∧ PostO X g1 (RepV X.K) (fin (acc ++ ys) S3) Q ∧ (acc ++ ys).length ≤ sizeLine, ?_, ?_⟩
  · cases h : srcGet src S1 with
    | none => rw [h] at p1; exact p1.elim
    | some xs =>
      rw [h] at p1
      simp only at p1
      cases hl : lcG (srcGet src) (wipeP sp vs) t tc te xs.length 0 S1 with
      | exc x S' => rw [hl] at p1; exact p1.elim
      | stuck => rw [hl] at p1; exact p1.elim
      | ok ys S3 =>
        rw [hl] at p1
        have p2 : PostO X g1 (RepV X.K) (fin ys S3) Q := Post.of p1
        refine ⟨xs.length, { g1 with rs := upd g1.rs D (.lst []) }, S1, [], [], xs.length, ⟨fun _ _ e => e, fun _ _ e => e⟩, ⟨_, rfl, rfl⟩, rfl, q1.reserve hD, .nil, rfl, ys, S3, hl, p2, ?_⟩
        cases hfin : fin ys S3 with
        | none => rw [hfin] at p2; exact p2.elim
        | some r => exact hf.fit _ _ _ hfin
  · rintro i m H2 ⟨g2, S2, acc, ws, f, l2, ⟨r, hr, hr1⟩, htb, q2, racc, rfl, ys, S3, hl, p2, hz⟩
    subst hr1
    have gD : g2.rs D = some (.lst ws) := by rw [hr, upd_same]
    have D0 : g1.rs D = none := by
      cases e : g1.rs D with
      | none => rfl
      | some u => rw [(q1.rs D u e).1] at hD; cases hD
    have h0 : ∀ a u, g1.rs a = some u → a ≠ D ∧ g2.rs a = some u := fun a u e => by
      have ha : a ≠ D := fun z => by rw [z, D0] at e; cases e
      exact ⟨ha, by rw [hr, upd_ne ha]; exact e⟩
    cases h : srcGet src S2 with
    | none =>
      cases m <;> (simp only [lcG, h] at hl; cases hl)
    | some xs =>
      obtain ⟨jst, jgo⟩ := jo i H2 g2 S2 xs l2 q2 h
      cases hx : xs[i]? with
      | none =>
        refine .inl ⟨jst (List.getElem?_eq_none_iff.mp hx), ?_⟩
        have e : ys = [] ∧ S3 = S2 := by
          cases m <;> (simp only [lcG, h, hx] at hl; cases hl; exact ⟨rfl, rfl⟩)
        obtain ⟨e1, e2⟩ := e
        subst e1 e2
        rw [List.append_nil] at p2
        refine hf.go g2 g1.rs S3 H2 acc ws D Q q2 gD h0 racc ?_
        have lle : g1.le ⟨g2.fz, g2.m, g1.rs, g2.tb⟩ := ⟨l2.fz, l2.m, rfl, htb⟩
        cases hfin : fin acc S3 with
        | none => rw [hfin] at p2; exact p2.elim
        | some rr =>
          obtain ⟨a, S4⟩ := rr
          rw [hfin] at p2
          exact fun b H5 g5 l5 q5 r5 => p2 b H5 g5 (lle.trans l5) q5 r5
      | some x =>
        cases m with
        | zero => simp only [lcG, h, hx] at hl; cases hl
        | succ m =>
          simp only [lcG, h, hx] at hl
          obtain ⟨go, yl⟩ := jgo x hx
          refine .inr ⟨go, _, fun H' n => ⟨m, Nat.lt_succ_self _, n⟩, fun v H' y => ?_⟩
          obtain ⟨g3, l3, q3, r3⟩ := yl v H' y
          cases ht : t x (wipeP sp vs) S2 with
          | none => simp only [ht] at hl; cases hl
          | some sp1 =>
            simp only [ht] at hl
            have E3 : RepE X.K g3 (wipeP sp vs) (wipe σ vs) := (hE1.monoV l2).mono l3
            refine ⟨g3, wipeP sp vs, S2, x, sp1, q3, E3, r3, ht, fun σ4 g4 l4 q4 e4 near => ⟨wipe_near near hv, g4, sp1, S2, q4, e4, ?_⟩⟩
            obtain ⟨k, S5, hk, hl2⟩ := Out.pure_ok hl (by intro z; cases z)
            rw [hk]
            intro b H5 g5 l5 q5 eb
            subst eb
            have l25 : g2.le g5 := (l3.trans l4).trans l5
            have lv5 : g1.lv g5 := l2.trans l25.lv
            have rs5 : g5.rs = g2.rs := l25.rs
            have tb5 : g5.tb = g1.tb := l25.tb.trans htb
            cases k with
            | false =>
              simp only [Bool.false_eq_true, if_false] at hl2 ⊢
              exact ⟨g5, S5, acc, ws, m, lv5, ⟨_, rs5.trans hr, rfl⟩, tb5, q5, RepVs.mono l25 _ _ racc, rfl, ys, S3, hl2, p2, hz⟩
            | true =>
              simp only [if_true] at hl2 ⊢
              obtain ⟨y', S6, hy, hl3⟩ := Out.pure_ok hl2 (by intro z; cases z)
              obtain ⟨zs, S7, hz7, hl4⟩ := Out.pure_ok hl3 (by intro z; cases z)
              cases hl4
              refine ⟨g5, sp1, S5, q5, e4.mono l5, ?_⟩
              rw [hy]
              intro w H6 g6 l6 q6 r6
              have l26 : g2.le g6 := l25.trans l6
              have rs6 : g6.rs = upd g1.rs D (.lst ws) := l26.rs.trans hr
              have gD6 : g6.rs D = some (.lst ws) := by rw [rs6, upd_same]
              have hlen := racc.length
              refine ⟨ws, (q6.rs D _ gD6).1, by rw [← hlen]; simp only [List.length_append, List.length_cons] at hz; omega, ?_⟩
              have q7 := q6.rekeep (o' := .lst (ws ++ [w])) gD6 noTab_lst
              have lv7 : g6.lv { g6 with rs := upd g6.rs D (.lst (ws ++ [w])) } := ⟨fun _ _ e => e, fun _ _ e => e⟩
              refine ⟨{ g6 with rs := upd g6.rs D (.lst (ws ++ [w])) }, S6, acc ++ [y'], ws ++ [w], m, (l2.trans l26.lv).trans lv7, ⟨g1.rs, by show upd g6.rs D _ = _; rw [rs6, upd_upd], rfl⟩, l26.tb.trans htb, q7, ?_, rfl, zs, S3, hz7, by rw [List.append_assoc]; exact p2, by rw [List.append_assoc]; exact hz⟩
              exact RepVs.monoV lv7 _ _ ((RepVs.mono l26 _ _ racc).append (.cons r6 .nil))
end
end MX

end

section
/-! enumerate of a tuple; zip. -/
namespace MXE
open PySem
open PySem.Sem (wp)
open AutoSeq1 (wpAny_loadPart')
theorem meets_enumerate_newT (l : Addr) (items : Array Value) (n : Nat) (dct : Option Addr) (sl : Array (Option Value)) :
    Meets (Builtin.«enumerate.__new__» ⟨[.type "enumerate", .ref l], []⟩) (fun _ R s => s.heap.get? l = some { cls := .type "tuple", dict := dct, data := .seq items n, slots := sl } ∧
      R (.ok (.ret (.ref (s.heap.push { cls := .type "tuple_iterator", data := .fields #[.ref l, .int 0 0] }).objs.size)))
        { s with heap := (s.heap.push { cls := .type "tuple_iterator", data := .fields #[.ref l, .int 0 0] }).push { cls := .type "enumerate", data := .fields #[.none, .bool false, .ref s.heap.objs.size, rawInt 0, .none, .none] } }) :=
  .of_wp fun prog w A R s h => by
    obtain ⟨hp, g, d, tk, os⟩ := s; obtain ⟨hl, h⟩ := h
    have hsub := sub_enumerate
    have hL : Heap.IsTuple (Shared.heap ⟨hp, g, d, tk, os⟩) l items := ⟨_, hl, rfl, n, rfl⟩
    wp_walk using wpAny_loadPart' hl
    refine wpAny_stack_any fun st => wpAny_pure ?_
    split
    · rename_i c _ _ _ _ _
      cases (c == Value.type "enumerate")
      · wp_walk using wpAny_loadPart' hl, wpAny_pyIter_tuple hL
        exact ⟨_, rfl, h⟩
      · wp_walk using wpAny_loadPart' hl, wpAny_pyIter_tuple hL
        exact ⟨_, rfl, h⟩
    · wp_walk using wpAny_loadPart' hl, wpAny_pyIter_tuple hL
      exact ⟨_, rfl, h⟩
section
variable {prog : Program} {w : World} {A : Around} {E : Value → Shared → Prop} {s : Shared}
theorem call_enumerate_tuple {l : Addr} {items : Array Value} {Q : Value → Shared → Prop} (hL : s.heap.IsTuple l items)
    (h : ∀ h', IsEnum h' (s.heap.objs.size + 1) s.heap.objs.size 0 .none → h'.IsTupleIter s.heap.objs.size l 0 → h'.objs.size = s.heap.objs.size + 2 →
      (∀ b o, s.heap.get? b = some o → h'.get? b = some o) → Q (.ref (s.heap.objs.size + 1)) { s with heap := h' }) :
    wpAny (model prog w) A (call (.type "enumerate") [.ref l]) Q E s := by
  obtain ⟨⟨c, dct, dt, sl⟩, hl, hc, n, hd⟩ := hL
  replace hc : c = .type "tuple" := hc
  replace hd : dt = .seq items n := hd
  subst hc hd
  refine callType_new F.called_enumerate (by decide) (F.typeCall_enumerate_1 _) (F.newCall_enumerate_1 _) (fun obj => F.args_object_init_2 obj _) F.entry_enumerate_new
    (meets_enumerate_newT l items n dct sl) ⟨hl, ?_⟩
  have hz : (s.heap.push { cls := .type "tuple_iterator", data := .fields #[.ref l, .int 0 0] }).objs.size = s.heap.objs.size + 1 := Heap.size_push ..
  show _ ∧ _
  rw [hz]
  have he : IsEnum ((s.heap.push { cls := .type "tuple_iterator", data := .fields #[.ref l, .int 0 0] }).push
      { cls := .type "enumerate", data := .fields #[.none, .bool false, .ref s.heap.objs.size, rawInt 0, .none, .none] }) (s.heap.objs.size + 1) s.heap.objs.size 0 .none := by
    have := Heap.get?_push_size (s.heap.push { cls := .type "tuple_iterator", data := .fields #[.ref l, .int 0 0] })
      (o := { cls := .type "enumerate", data := .fields #[.none, .bool false, .ref s.heap.objs.size, rawInt 0, .none, .none] }) rfl
    rw [hz] at this; exact this
  refine ⟨⟨_, he, rfl⟩, h _ he ⟨_, Heap.get?_push_of_some _ (Heap.get?_push_size _ rfl), rfl, rfl⟩ (by rw [Heap.size_push, hz]) fun b o x => Heap.get?_push_of_some _ (Heap.get?_push_of_some _ x)⟩
theorem draws_tuple {prog : Program} {w : World} {A : Around} (hh : A.handled = none) (it l : Addr) (hne : l ≠ it) (items : Array Value) :
    Draws prog w A it [it, l] items.size (fun i v => items[i]? = some v) (fun i h => h.IsTupleIter it l i ∧ h.IsTuple l items) where
  live := fun _ _ st => let ⟨o, ho, _⟩ := st.1; ⟨o, ho⟩
  frame := fun _ _ _ st hk => ⟨st.1.at fun o e => hk it (by simp) o e, (by
    obtain ⟨o, h1, h2⟩ := st.2
    exact ⟨o, hk l (by simp) o h1, h2⟩)⟩
  item := fun i s Q E hi st hQ => by
    refine RZ.nextOf_tuple_item st.1 st.2 (x := items[i]) (by simp [hi]) fun h' hit' hs' => ?_
    exact hQ _ h' s.toks (by simp [hi]) ⟨hit', (by
      obtain ⟨o, h1, h2⟩ := st.2
      exact ⟨o, (hs'.2 l hne).trans h1, h2⟩)⟩ hs'
  done := fun s Q E st hE => RZ.nextOf_tuple_end hh st.1 st.2 (by simp) hE
end
end MXE
namespace MX
open PySem PySem.Spec PyProof.Rows L2
def IteT (K : PySem.W.Frag) (a : Addr) : It :=
  ⟨fun i H => ∃ (xs : List V) (x : V), SqT K H a xs ∧ xs[i]? = some x, fun i H v H' => ∃ T x, v = .ref T ∧ H T = none ∧ H' = upd H T (.tup [.int (i : Nat), x]) ∧ ∀ xs, SqT K H a xs → xs[i]? = some x, fun i H => ∃ xs : List V, SqT K H a xs ∧ xs.length ≤ i⟩
theorem turn_enumT {P : Program} {w : World} {K : PySem.W.Frag} {elts : List Expr} {kk : Nat} {tpos : Pos} (a e it : Addr) :
    Turn P w K (.Tuple elts kk tpos) (IteT K a) [e, it] e (fun i h => (∃ old, IsEnum h e it ((i : Nat) : Int) old) ∧ h.IsTupleIter it a i ∧ e ≠ it ∧ a ≠ it) where
  mem := by simp
  obj := fun i h st b hb => by
    obtain ⟨⟨old, he⟩, ⟨o, ho, hc, hd⟩, _⟩ := st
    have e' : b = e ∨ b = it := by simpa using hb
    rcases e' with z | z
    · rw [z]; exact ⟨_, he, fun v q => nomatch q⟩
    · rw [z]; exact ⟨o, ho, fun v q => by rw [hd] at q; cases q⟩
  keep := fun i h h' st k => let ⟨⟨old, he⟩, hi, hne⟩ := st; ⟨⟨old, k e (by simp) _ he⟩, hi.at fun o q => k it (by simp) o q, hne⟩
  item := by
    intro X hP hw hK hc i pins s σ H E I hf st hg
    subst hP hw hK
    obtain ⟨⟨old, he⟩, hit, hne, hai⟩ := st
    obtain ⟨xs, x, hq, hx⟩ := hg
    obtain ⟨its, rv, p, hz⟩ := I.tuple hq
    obtain ⟨u, hu, ru⟩ := rv.get hx
    have hel : e < s.heap.objs.size := Heap.lt_size he
    have hil : it < s.heap.objs.size := by obtain ⟨_, q, _⟩ := hit; exact Heap.lt_size q
    have hea : e ≠ a := fun z => by
      obtain ⟨o, h1, h2, _⟩ := p
      rw [← z, he] at h1
      cases h1
      exact absurd (Value.type.inj (show Value.type "enumerate" = Value.type "tuple" from h2)) (by decide)
    have hlt : i < its.toArray.size := by
      have := (List.getElem?_eq_some_iff.mp hu).1
      simpa using this
    refine wpAny_pyNext_enum_itemD (MXE.draws_tuple (A := X.A.in1) (I.ok.hd hc) it a hai its.toArray) he ⟨hit, p⟩ hlt hne (by simp [hne, hea]) fun u' h' tk hP' ho st' hT hsz hk => ?_
    have eu : u' = u := by
      have hP' : its.toArray[i]? = some u' := hP'
      have : its[i]? = some u' := by simpa using hP'
      rw [hu] at this; exact (Option.some.inj this).symm
    subst eu
    refine ⟨_, rfl, wpAny_letOwnedTupleGo_enum (s := { s with heap := h', toks := tk + 1 }) ho fun h'' he' sb => ?_⟩
    have hT2 : h''.get? s.heap.objs.size = some { cls := .type "tuple", data := .seq #[.int i tk, u'] } := (sb.2 _ (Nat.ne_of_gt hel)).trans hT
    have new : ObjOk X.prog X.w (upd H s.heap.objs.size (.tup [.int (i : Nat), x])) h'' s.heap.objs.size (.tup [.int (i : Nat), x]) :=
      ⟨by show 2 ≤ sizeLine; decide, [.int i tk, u'], .cons ⟨_, rfl⟩ (.cons ru .nil), ⟨_, hT2, rfl, _, rfl⟩⟩
    have I1 : Inv X pins σ (upd H s.heap.objs.size (.tup [.int (i : Nat), x])) { s with heap := h'', toks := tk + 1 } :=
      I.turnedNew (ch := [e, it]) (fun b ob hb q => (sb.2 b (fun z => hb (by simp [z]))).trans (hk b ob (fun z => hb (by simp [z])) (fun z => hb (by simp [z])) q)) hf (Nat.le_refl _) new
    refine ⟨.ref s.heap.objs.size, _, I1, rfl, ⟨_, x, rfl, I.hok.fresh (Nat.le_refl _), rfl, fun ys hy => by rw [I.tuple_inj hy hq]; exact hx⟩, ⟨⟨u', ?_⟩, st'.1.at fun o q => (sb.2 it (Ne.symm hne)).trans q, hne, hai⟩, fun b hb => ?_⟩
    · have e1 : ((i + 1 : Nat) : Int) = (i : Int) + 1 := by omega
      rw [e1]; exact he'
    · have hb' : b < s.heap.objs.size := by
        have e' : b = e ∨ b = it := by simpa using hb
        rcases e' with z | z
        · rw [z]; exact hel
        · rw [z]; exact hil
      rw [upd_ne (Nat.ne_of_lt hb')]
      exact (hf b hb).1
  done := by
    intro X hP hw hK hc i pins s σ H E I hf st hg
    subst hP hw hK
    obtain ⟨⟨old, he⟩, hit, hne, hai⟩ := st
    obtain ⟨xs, hq, hx⟩ := hg
    obtain ⟨its, rv, p, hz⟩ := I.tuple hq
    obtain ⟨f0, f1, f2, f3, f4, f5⟩ := hf it (by simp)
    have hl := rv.length
    have D := RZ.nextOf_tuple_end (prog := X.prog) (w := X.w) (A := X.A.in1) (E := E) (s := s) (Q := fun _ _ => False) (show X.A.in1.handled = none from I.ok.hd hc) hit (show s.heap.IsTuple a its.toArray from p) (by simp; omega)
    -- the end by hand: any place behind the last one ends alike
    unfold pyNext
    refine wpAny_bind (wpAny_attempt (wpAny_callSpecial?_slot (name := Str.ofString "__next__") (show s.TypeIs (.ref e) "enumerate" from ⟨_, he, rfl⟩) F.slot_enumerate_next
      (wpAny_call_entry F.slot_enumerate_next (show s.TypeIs (.ref e) "enumerate" from ⟨_, he, rfl⟩) F.entry_enumerate_next ?_ (F.args_enumerate_next_1 _))))
    show wpAny _ _ (field (.ref e) 2 >>= _) _ _ _
    refine wpAny_bind (wpAny_field he rfl (x := .ref it) rfl ?_)
    refine wpAny_bind (RZ.nextOf_tuple_end (show X.A.in1.handled = none from I.ok.hd hc) hit (show s.heap.IsTuple a its.toArray from p) (by simp; omega) fun h' x he' hx' => ?_)
    obtain ⟨o, ho, hcl⟩ := hx'
    refine wpAny_bind (wpAny_isInstance (T := "StopIteration") (b := true) ⟨o, ho, hcl⟩ isSubtype_stop ?_)
    exact wpAny_pure ⟨rfl, I.turned (t' := s.toks) (fun b o hb q => he' b o hb q) f0 f1 f3 f4 f5⟩
  self := fun A i s Q E st h => let ⟨⟨_, he⟩, _⟩ := st; wpAny_pyIter_enum he h
def iEnumT (K : PySem.W.Frag) (ta : TA) : TI := fun σ H R => ta σ H fun vs H1 => ∃ a xs, vs = [.ref a] ∧ SqT K H1 a xs ∧ R (IteT K a) H1
theorem pi_enumT {X : Cx} {e : Expr} {ta : TA} {p pos tpos : Pos} {elts : List Expr} {kk : Nat} (hg : Gl X "enumerate") (hm : X.mg "enumerate" = none) (ha : PA X [e] ta) (hs : starEach [e] X.env = [(false, eval e X.env)] := by rfl) :
    PI X (.Tuple elts kk tpos) (.Call (.Name "enumerate" p) [e] [] pos) (iEnumT X.K ta) := by
  refine ⟨fun pins s σ H R I h => ?_⟩
  refine Call_ (ld_blt I hg hm boot_enumerate (PyProof.Rows.callWith_type1 (thn (ha.run pos pins s σ H _ I h) fun us s1 ⟨vs, H1, I1, r1, q1⟩ => ?_) hs rfl))
  obtain ⟨a, xs, ex, hq, q⟩ := q1
  subst ex
  cases r1 with
  | cons r rr =>
    cases rr
    cases r
    obtain ⟨its, rv, p', hz⟩ := I1.tuple hq
    have hal : a < s1.heap.objs.size := by
      obtain ⟨o, ho, _⟩ := p'
      exact Heap.lt_size ho
    refine MXE.call_enumerate_tuple p' fun h' he hit hsz hk => wpAny_pyIter_enum he ?_
    have I2 : Inv X pins σ H1 { s1 with heap := h' } := I1.kept (t' := s1.toks) hk
    refine ⟨s1.heap.objs.size + 1, [s1.heap.objs.size + 1, s1.heap.objs.size], _, _, H1, rfl, I2, turn_enumT a (s1.heap.objs.size + 1) s1.heap.objs.size, ⟨⟨.none, he⟩, hit, Nat.succ_ne_self _, Nat.ne_of_lt hal⟩, fun b hb => ?_, q⟩
    have e' : b = s1.heap.objs.size + 1 ∨ b = s1.heap.objs.size := by simpa using hb
    have hle : s1.heap.objs.size ≤ b := by
      rcases e' with z | z
      · rw [z]; exact Nat.le_add_right _ _
      · rw [z]; exact Nat.le_refl _
    exact I1.fpOk hle (I1.hok.fresh hle)

section
variable {X : Cx} {e : Expr} {te : Sx} {pos : Pos}
theorem JOk.enumL {g : Gh} {a : Addr} {src : Src} (h : ∀ (g' : Gh) (S : Sto) (H : Hp) (ys : List PV), g.lv g' → RepS X.K X.mp g' S H → srcGet src S = some ys → ∃ xs vs, ys = enumP 0 xs ∧ SqL X.K H a vs ∧ RepVs X.K g' xs vs) : JOk X g src (Ite X.K a) := fun i H g' S ys l hS e => by
  obtain ⟨xs, vs, q0, q1, q2⟩ := h g' S H ys l hS e
  subst q0
  refine ⟨fun hi => ⟨vs, q1, by rw [enumP_length] at hi; rw [← q2.length]; exact hi⟩, fun y hy => ?_⟩
  rw [enumP_get] at hy
  cases hx : xs[i]? with
  | none => rw [hx] at hy; cases hy
  | some x =>
    rw [hx] at hy
    obtain ⟨v, e1, r⟩ := q2.get hx
    refine ⟨⟨vs, v, q1, e1⟩, fun u H' ⟨T, x', e2, hT, e3, k⟩ => ?_⟩
    subst e2 e3
    have := k vs q1
    rw [e1] at this; cases this
    obtain ⟨h1, l1⟩ := hS.froze (o := .tup [.int (i : Nat), v]) hT
    cases hy
    refine ⟨_, l1, h1, T, [.int (i : Nat), v], rfl, .inl (.inl upd_same), ?_⟩
    exact .cons (by show V.int _ = V.int _; simp) (.cons (RepV.mono l1 _ _ r) .nil)
theorem JOk.enumT {g : Gh} {a : Addr} {xs : List PV} {vs : List V} (h : SqT X.K g.fz a vs) (r : RepVs X.K g xs vs) : JOk X g (.items (enumP 0 xs)) (IteT X.K a) := fun i H g' S ys l hS e => by
  cases e
  have q1 : SqT X.K H a vs := SqT.mono (fun b o z => hS.fz b o (l.fz b o z)) h
  refine ⟨fun hi => ⟨vs, q1, by rw [enumP_length] at hi; rw [← r.length]; exact hi⟩, fun y hy => ?_⟩
  rw [enumP_get] at hy
  cases hx : xs[i]? with
  | none => rw [hx] at hy; cases hy
  | some x =>
    rw [hx] at hy
    obtain ⟨v, e1, r1⟩ := r.get hx
    refine ⟨⟨vs, v, q1, e1⟩, fun u H' ⟨T, x', e2, hT, e3, k⟩ => ?_⟩
    subst e2 e3
    have := k vs q1
    rw [e1] at this; cases this
    obtain ⟨h1, l1⟩ := hS.froze (o := .tup [.int (i : Nat), v]) hT
    cases hy
    refine ⟨_, l1, h1, T, [.int (i : Nat), v], rfl, .inl (.inl upd_same), ?_⟩
    exact .cons (by show V.int _ = V.int _; simp) (.cons (RepV.mono l1 _ _ (RepV.monoV l _ _ r1)) .nil)
def srcEnum (v : PV) (S1 : Sto) : Out Src := match v with
  | .tup xs => .ok (.items (enumP 0 xs)) S1
  | .lst xs => .ok (.items (enumP 0 xs)) S1
  | .ref n => match listOf S1 (.ref n) with
    | some _ => .ok (.liveE n) S1
    | none => .stuck
  | _ => .stuck
def siEnum (te : Sx) : Si := fun sp S => (te sp S).bind srcEnum
theorem si_enum {elts : List Expr} {kk : Nat} {p tpos : Pos} (hg : Gl X "enumerate") (hm : X.mg "enumerate" = none) (he : PE X e (rdE X te)) (hs : starEach [e] X.env = [(false, eval e X.env)] := by rfl) :
    PI X (.Tuple elts kk tpos) (.Call (.Name "enumerate" p) [e] [] pos) (rdI X (siEnum te)) := by
  refine ((pi_enum hg hm (pa_cons he pa_nil (by rw [hs]; rfl)) hs).or (pi_enumT hg hm (pa_cons he pa_nil (by rw [hs]; rfl)) hs)).imp fun σ H R ⟨g, sp, S, hS, hE, p⟩ => ?_
  cases h : te sp S with
  | exc x S1 =>
    refine .inl ⟨g, sp, S, hS, hE, ?_⟩
    unfold siEnum at p
    rw [h] at p ⊢
    exact p
  | stuck =>
    unfold siEnum at p
    rw [h] at p
    exact p.elim
  | ok v S1 =>
    have go : ∀ (Q : VK), (∀ x H1, (∃ g1, g.le g1 ∧ RepS X.K X.mp g1 S1 H1 ∧ RepE X.K g1 sp σ ∧ RepV X.K g1 v x ∧ Post X g1 (JOk X) (ExcT X g1 sp) (srcEnum v S1) R) → Q x H1) → rdE X te σ H Q := fun Q hQ => by
      refine ⟨g, sp, S, hS, hE, ?_⟩
      rw [h]
      intro x H1 g1 l1 q1 r1
      refine hQ x H1 ⟨g1, l1, q1, hE.mono l1, r1, ?_⟩
      unfold siEnum at p
      rw [h] at p
      exact (Post.imp (show Post X g (JOk X) (ExcT X g sp) (srcEnum v S1) R from p) (fun x S' t => t.mono l1) fun _ _ q => q).le l1
    cases v with
    | tup xs =>
      refine .inr (go _ fun x H1 ⟨g1, l1, q1, e1, ⟨a, vs, ex, k1, k2⟩, p1⟩ => ?_)
      subst ex
      exact ⟨a, vs, rfl, SqT.mono q1.fz k1, p1 _ H1 g1 (.refl _) q1 (JOk.enumT k1 k2)⟩
    | lst xs =>
      refine .inl (go _ fun x H1 ⟨g1, l1, q1, e1, ⟨a, vs, ex, k1, k2⟩, p1⟩ => ?_)
      subst ex
      refine ⟨a, vs, rfl, (LsQ.mono q1.fz k1).sq, p1 _ H1 g1 (.refl _) q1 (JOk.enumL fun g' S' H' ys l hS' e' => ?_)⟩
      cases e'
      exact ⟨xs, vs, rfl, (LsQ.mono (fun b o z => hS'.fz b o (l.fz b o z)) k1).sq, RepVs.monoV l _ _ k2⟩
    | ref n =>
      refine .inl (go _ fun x H1 ⟨g1, l1, q1, e1, r1, p1⟩ => ?_)
      obtain ⟨a, ex, em⟩ := id r1
      unfold srcEnum at p1
      cases h2 : listOf S1 (.ref n) with
      | none => simp only [h2] at p1; exact p1.elim
      | some xs =>
        simp only [h2] at p1
        obtain ⟨a', vs, ex', k1, k2⟩ := q1.list r1 h2
        subst ex
        cases ex'
        refine ⟨a, vs, rfl, k1.sq, p1 _ H1 g1 (.refl _) q1 (JOk.enumL fun g' S' H' ys l hS' e' => ?_)⟩
        have e'' : (listOf S' (.ref n)).map (enumP 0) = some ys := e'
        cases h3 : listOf S' (.ref n) with
        | none => rw [h3] at e''; cases e''
        | some zs =>
          rw [h3] at e''; cases e''
          obtain ⟨a2, ws, ex2, k3, k4⟩ := hS'.list (RepV.monoV l _ _ r1) h3
          cases ex2
          exact ⟨zs, ws, rfl, k3.sq, k4⟩
    | _ =>
      unfold siEnum at p
      rw [h] at p
      exact p.elim
/-- zip of two lists or two tuples that stand -/
def zipP : List PV → List PV → List PV
  | x :: xs, y :: ys => .tup [x, y] :: zipP xs ys
  | _, _ => []
theorem zipP_get : ∀ (xs ys : List PV) (k : Nat), (zipP xs ys)[k]? = (match xs[k]?, ys[k]? with
    | some x, some y => some (PV.tup [x, y])
    | _, _ => none)
  | [], _, _ => by simp [zipP]
  | _ :: _, [], _ => by simp [zipP]
  | x :: xs, y :: ys, 0 => by simp [zipP]
  | x :: xs, y :: ys, k + 1 => by
    simp only [zipP, List.getElem?_cons_succ]
    exact zipP_get xs ys k
theorem zipP_length : ∀ (xs ys : List PV), (zipP xs ys).length = min xs.length ys.length
  | [], _ => by simp [zipP]
  | _ :: _, [] => by simp [zipP]
  | x :: xs, y :: ys => by simp [zipP, zipP_length xs ys]
def siZip (ta tb : Sx) : Si := fun sp S => (ta sp S).bind fun v S1 => (tb sp S1).bind fun w S2 => match v, w with
  | .tup xs, .tup ys => .ok (.items (zipP xs ys)) S2
  | .lst xs, .lst ys => .ok (.items (zipP xs ys)) S2
  | _, _ => .stuck
theorem si_zip {a b : Expr} {ta tb : Sx} {elts : List Expr} {kk : Nat} {p tpos : Pos} (hg : Gl X "zip") (hm : X.mg "zip" = none) (ha : PE X a (rdE X ta)) (hb : PE X b (rdE X tb)) (hs : starEach [a, b] X.env = (false, eval a X.env) :: starEach [b] X.env := by rfl) (hs2 : starEach [b] X.env = (false, eval b X.env) :: starEach [] X.env := by rfl)
    (hpl : (backTo pos (starEach [b] X.env)).any (·.1) = false := by rfl) :
    PI X (.Tuple elts kk tpos) (.Call (.Name "zip" p) [a, b] [] pos) (rdI X (siZip ta tb)) :=
  (RZ.pi_zipA hg hm (pa_cons ha (pa_cons hb pa_nil hs2) hs) hs hpl).imp fun σ H R ⟨g, sp, S, hS, hE, p⟩ => by
    refine (rdE.fst hS hE p).mono fun x H1 ⟨v, g1, S1, l1, q1, e1, r1, p1⟩ => ?_
    refine (rdE.fst q1 e1 p1).mono fun y H2 ⟨w, g2, S2, l2, q2, e2, r2, p2⟩ => ?_
    cases v with
    | tup xs =>
      cases w with
      | tup ys =>
        obtain ⟨a, vs, ex, k1, k2⟩ := RepV.mono l2 _ _ r1
        obtain ⟨b, ws, ey, k3, k4⟩ := r2
        subst ex ey
        refine ⟨a, b, vs, ws, rfl, .inr ⟨SqT.mono q2.fz k1, SqT.mono q2.fz k3, p2 _ H2 g2 (.refl _) q2 ?_⟩⟩
        intro i H3 g3 S3 zs l3 hS3 e3
        cases e3
        have j1 : SqT X.K H3 a vs := SqT.mono (fun b o z => hS3.fz b o (l3.fz b o z)) k1
        have j2 : SqT X.K H3 b ws := SqT.mono (fun b o z => hS3.fz b o (l3.fz b o z)) k3
        refine ⟨fun hi => ⟨vs, ws, j1, j2, by rw [zipP_length] at hi; rw [← k2.length, ← k4.length]; omega⟩, fun z hz => ?_⟩
        rw [zipP_get] at hz
        cases h1 : xs[i]? with
        | none => rw [h1] at hz; cases hz
        | some x =>
          cases h2 : ys[i]? with
          | none => rw [h1, h2] at hz; cases hz
          | some y =>
            rw [h1, h2] at hz
            cases hz
            obtain ⟨v, f1, f2⟩ := k2.get h1
            obtain ⟨w, f3, f4⟩ := k4.get h2
            refine ⟨⟨vs, ws, v, w, j1, j2, f1, f3⟩, fun u H' ⟨T, x', y', e2, hT, e3, kx, ky⟩ => ?_⟩
            subst e2 e3
            have t1 := kx vs j1
            have t2 := ky ws j2
            rw [f1] at t1; cases t1
            rw [f3] at t2; cases t2
            obtain ⟨z1, lz⟩ := hS3.froze (o := .tup [v, w]) hT
            exact ⟨_, lz, z1, T, [v, w], rfl, .inl (.inl upd_same), .cons (RepV.mono lz _ _ (RepV.monoV l3 _ _ f2)) (.cons (RepV.mono lz _ _ (RepV.monoV l3 _ _ f4)) .nil)⟩
      | _ => exact p2.elim
    | lst xs =>
      cases w with
      | lst ys =>
        obtain ⟨a, vs, ex, k1, k2⟩ := RepV.mono l2 _ _ r1
        obtain ⟨b, ws, ey, k3, k4⟩ := r2
        subst ex ey
        refine ⟨a, b, vs, ws, rfl, .inl ⟨(LsQ.mono q2.fz k1).sq, (LsQ.mono q2.fz k3).sq, p2 _ H2 g2 (.refl _) q2 ?_⟩⟩
        intro i H3 g3 S3 zs l3 hS3 e3
        cases e3
        have j1 : SqL X.K H3 a vs := (LsQ.mono (fun b o z => hS3.fz b o (l3.fz b o z)) k1).sq
        have j2 : SqL X.K H3 b ws := (LsQ.mono (fun b o z => hS3.fz b o (l3.fz b o z)) k3).sq
        refine ⟨fun hi => ⟨vs, ws, j1, j2, by rw [zipP_length] at hi; rw [← k2.length, ← k4.length]; omega⟩, fun z hz => ?_⟩
        rw [zipP_get] at hz
        cases h1 : xs[i]? with
        | none => rw [h1] at hz; cases hz
        | some x =>
          cases h2 : ys[i]? with
          | none => rw [h1, h2] at hz; cases hz
          | some y =>
            rw [h1, h2] at hz
            cases hz
            obtain ⟨v, f1, f2⟩ := k2.get h1
            obtain ⟨w, f3, f4⟩ := k4.get h2
            refine ⟨⟨vs, ws, v, w, j1, j2, f1, f3⟩, fun u H' ⟨T, x', y', e2, hT, e3, kx, ky⟩ => ?_⟩
            subst e2 e3
            have t1 := kx vs j1
            have t2 := ky ws j2
            rw [f1] at t1; cases t1
            rw [f3] at t2; cases t2
            obtain ⟨z1, lz⟩ := hS3.froze (o := .tup [v, w]) hT
            exact ⟨_, lz, z1, T, [v, w], rfl, .inl (.inl upd_same), .cons (RepV.mono lz _ _ (RepV.monoV l3 _ _ f2)) (.cons (RepV.mono lz _ _ (RepV.monoV l3 _ _ f4)) .nil)⟩
      | _ => exact p2.elim
    | _ => exact p2.elim
end
end MX

end

section
/-! Comprehensions as rules; stores to items; methods; dicts; defs and calls; repr; the end of a law. -/
namespace MX
open PySem PySem.Spec PyProof.Rows L2

/-! ### comprehensions -/
section
variable {X : Cx} {elt tg iter : Expr} {ifs : List Expr} {scope : Scope} {own : List (Str × Nat)} {pos : Pos} {ti : Si} {t : Sg} {is : List Nat} {tc : St'} {te : Sx} {fin : VN}
theorem pts_0 {X : Cx} {c : Expr} {t : St'} (h : PT X c (rdT X t)) : PTs X [c] (rdT0 X t) := pts_one (pt_0 h)
theorem pts_yes {X : Cx} : PTs X [] (rdT0 X stYes) := ⟨fun pins s σ H Q I ⟨g, sp, S, hS, hE, p⟩ => pts_nil.run pins s σ H Q I (p true H g (.refl _) hS rfl)⟩
theorem se_lc (own : List (Str × Nat)) (hf : FinL X fin) (hc : X.calm = true) (hN : X.N.Nodup) (hi : PI X tg iter (rdI X ti)) (ok : BlkOk X.N X.env.scope scope own)
    (hg : ∀ (s : Shared) (H : Hp) (C : Addr) (cl : List (Str × Addr)) (fp : List Addr), PG (X.blk s H scope (compEnvC scope cl C X.env) fp) tg (rdG X is t))
    (ht : ∀ (s : Shared) (H : Hp) (C : Addr) (cl : List (Str × Addr)) (fp : List Addr), PTs (X.blk s H scope (compEnvC scope cl C X.env) fp) ifs (rdT0 X tc))
    (he : ∀ (s : Shared) (H : Hp) (C : Addr) (cl : List (Str × Addr)) (fp : List Addr), PE (X.blk s H scope (compEnvC scope cl C X.env) fp) elt (rdE0 X te))
    (hv : ∀ i ∈ is, i ∈ own.map (·.2) := by decide) (hs : ∀ x, foldedSetIterable iter X.env x = pure x := by intro _; rfl) :
    PE X (.ListComp elt [⟨tg, iter, ifs, 0⟩] scope pos) (rdE X (sxLc fin ti (own.map (·.2)) t tc te)) := (pe_lc hc hN hi ok hg ht he hs).imp fun _ _ _ h => rdLc hf hv h
/-- name = [..] -/
theorem ss_setLc (i : Nat) (own : List (Str × Nat)) {y : Str} {py spos : Pos} (hf : FinL X fin) (hc : X.calm = true) (hN : X.N.Nodup) (hi : PI X tg iter (rdI X ti)) (ok : BlkOk X.N X.env.scope scope own)
    (hg : ∀ (s : Shared) (H : Hp) (C : Addr) (cl : List (Str × Addr)) (fp : List Addr), PG (X.blk s H scope (compEnvC scope cl C X.env) fp) tg (rdG X is t))
    (ht : ∀ (s : Shared) (H : Hp) (C : Addr) (cl : List (Str × Addr)) (fp : List Addr), PTs (X.blk s H scope (compEnvC scope cl C X.env) fp) ifs (rdT0 X tc))
    (he : ∀ (s : Shared) (H : Hp) (C : Addr) (cl : List (Str × Addr)) (fp : List Addr), PE (X.blk s H scope (compEnvC scope cl C X.env) fp) elt (rdE0 X te))
    (hsw : swapsWith (.ListComp elt [⟨tg, iter, ifs, 0⟩] scope pos) (some (.Name y py)) spos.line X.env = pure true := by exact sw_true rfl rfl rfl (by decide +kernel))
    (hy : X.N[i]? = some y := by rfl) (hyl : X.env.scope.names.lookup y = some .local := by rfl) (hv : ∀ i ∈ is, i ∈ own.map (·.2) := by decide) (hs : ∀ x, foldedSetIterable iter X.env x = pure x := by intro _; rfl) :
    PS X (.Assign [.Name y py] (.ListComp elt [⟨tg, iter, ifs, 0⟩] scope pos) spos) (rdS X (ssSet i (sxLc fin ti (own.map (·.2)) t tc te))) := (ps_setLc hc hN hy hyl hsw hi ok hg ht he hs).imp fun D σ H ⟨g, sp, S, hS, hE, p⟩ => by
  have p : PostS X g (bindS (sxLc fin ti (own.map (·.2)) t tc te sp S) sp fun v S1 => .nx (sp.set i (some v)) S1) D := p
  have q := rdE.sq hS hE p
  refine rdLc hf hv (q.mono fun x H1 ⟨a, g1, S1, l1, q1, e1, r1, p1⟩ => ?_)
  exact p1 _ H1 g1 (.refl _) q1 (e1.set r1 i)
end

/-! ### o[i] = v -/
def putP (kvs : List (Key × PV)) (k : Key) (v : PV) : List (Key × PV) :=
  if (kvs.any fun kv => decide (kv.1 = k)) then kvs.map fun kv => if kv.1 = k then (kv.1, v) else kv else kvs ++ [(k, v)]
def valP (kvs : List (Key × PV)) (k : Key) : Option PV := (kvs.find? fun kv => decide (kv.1 = k)).map (·.2)
def keyP : PV → Option Key
  | .int i => some (.inl i)
  | .str z => some (.inr z)
  | _ => none
section
variable {K : PySem.W.Frag} {g : Gh}
theorem RepKV.any {kvs : List (Key × PV)} {ws : List (Key × V)} (r : RepKV K g kvs ws) (k : Key) : (kvs.any fun kv => decide (kv.1 = k)) = ws.any fun kv => decide (kv.1 = k) := by
  induction r with
  | nil => rfl
  | cons h t ih => rw [List.any_cons, List.any_cons, ih, h.1]
theorem RepKV.val {kvs : List (Key × PV)} {ws : List (Key × V)} (r : RepKV K g kvs ws) {k : Key} {v : PV} (h : valP kvs k = some v) : ∃ w, valV ws k = some w ∧ RepV K g v w := by
  induction r with
  | nil => cases h
  | @cons p q ps qs hh t ih =>
    unfold valP at h
    rw [List.find?_cons] at h
    by_cases e : p.1 = k
    · simp only [e, decide_true, Option.map_some] at h
      cases h
      exact ⟨q.2, valV_pos (by rw [← hh.1]; exact e), hh.2⟩
    · simp only [e, decide_false] at h
      obtain ⟨w, h1, h2⟩ := ih h
      exact ⟨w, by rw [valV_neg (by rw [← hh.1]; exact e)]; exact h1, h2⟩
theorem RepKV.valN {kvs : List (Key × PV)} {ws : List (Key × V)} (r : RepKV K g kvs ws) {k : Key} (h : valP kvs k = none) : valV ws k = none := by
  induction r with
  | nil => rfl
  | @cons p q ps qs hh t ih =>
    unfold valP at h
    rw [List.find?_cons] at h
    by_cases e : p.1 = k
    · simp only [e, decide_true, Option.map_some] at h
      cases h
    · simp only [e, decide_false] at h
      rw [valV_neg (by rw [← hh.1]; exact e)]
      exact ih h
theorem RepKV.repl {kvs : List (Key × PV)} {ws : List (Key × V)} (r : RepKV K g kvs ws) (k : Key) {v : PV} {w : V} (rv : RepV K g v w) :
    RepKV K g (kvs.map fun kv => if kv.1 = k then (kv.1, v) else kv) (ws.map fun kv => if kv.1 = k then (kv.1, w) else kv) := by
  induction r with
  | nil => exact .nil
  | @cons p q ps qs hh t ih =>
    rw [List.map_cons, List.map_cons]
    refine .cons ?_ ih
    by_cases e : p.1 = k
    · rw [if_pos e, if_pos (by rw [← hh.1]; exact e)]
      exact ⟨hh.1, rv⟩
    · rw [if_neg e, if_neg (by rw [← hh.1]; exact e)]
      exact hh
theorem RepKV.snoc {kvs : List (Key × PV)} {ws : List (Key × V)} (r : RepKV K g kvs ws) (k : Key) {v : PV} {w : V} (rv : RepV K g v w) : RepKV K g (kvs ++ [(k, v)]) (ws ++ [(k, w)]) := by
  induction r with
  | nil => exact .cons ⟨rfl, rv⟩ .nil
  | @cons p q ps qs hh t ih => exact .cons hh ih
theorem RepKV.put {kvs : List (Key × PV)} {ws : List (Key × V)} (r : RepKV K g kvs ws) (k : Key) {v : PV} {w : V} (rv : RepV K g v w) : RepKV K g (putP kvs k v) (putK ws k w) := by
  unfold putP putK
  rw [r.any k]
  split
  · exact r.repl k rv
  · exact r.snoc k rv
theorem RepKV.length {kvs : List (Key × PV)} {ws : List (Key × V)} (r : RepKV K g kvs ws) : kvs.length = ws.length := Paired.length r
theorem keyP_rep {a : PV} {x : V} {k : Key} (r : RepV K g a x) (h : keyP a = some k) : x = kV k := by
  cases a with
  | int i => cases h; exact r
  | str z => cases h; exact r
  | _ => cases h
end
def vSet : PV → PV → PV → Sto → Option Sto := fun o i v S => match o with
  | .ref n => match S[n]?, i with
    | some (.lst xs), .int k => (ixN xs.length k).map fun j => S.set n (.lst (xs.set j v))
    | some (.dct kvs), i => (keyP i).bind fun k => if kvs.length < sizeLine then some (S.set n (.dct (putP kvs k v))) else none
    | _, _ => none
  | _ => none
def rVSet (X : Cx) : TSet := fun o i v H Q => ∃ g S a b c S', RepS X.K X.mp g S H ∧ RepV X.K g a o ∧ RepV X.K g b i ∧ RepV X.K g c v ∧ vSet a b c S = some S' ∧ ∀ H' g', g.le g' → RepS X.K X.mp g' S' H' → Q H'
section
variable {X : Cx}
theorem set_any (hu : X.A.units + 1 < cLine) : PSet X (rVSet X) := by
  intro pins s σ H o i v ov iv u Q I ro ri rv ⟨g, S, a, b, c, S', hS, r1, r2, r3, e, k⟩
  cases a with
  | ref n =>
    obtain ⟨p, ex, em⟩ := r1
    subst ex
    obtain ⟨so, h2⟩ := hS.at_ em
    have q := hS.ob n so p h2 em
    unfold vSet at e
    simp only [h2] at e
    cases so with
    | lst xs =>
      obtain ⟨vs, q1, q2⟩ := q
      cases b with
      | int z =>
        cases hj : ixN xs.length z with
        | none => simp only [hj] at e; cases e
        | some j =>
          simp only [hj] at e
          cases e
          exact set_list pins s σ H _ i v ov iv u Q I ro ri rv ⟨p, vs, z, j, rfl, r2, q1, by rw [← q2.length]; exact hj, k _ g (.refl _) (hS.put h2 (by intro z; cases z) em ⟨vs.set j v, upd_same, q2.set r3 j⟩)⟩
      | _ => cases e
    | dct kvs =>
      obtain ⟨ws, q1, q2⟩ := q
      have e' : ((keyP b).bind fun k => if kvs.length < sizeLine then some (S.set n (.dct (putP kvs k c))) else none) = some S' := by
        cases b <;> first | exact e | cases e
      cases hk : keyP b with
      | none => rw [hk] at e'; cases e'
      | some kk =>
        rw [hk] at e'
        have e2 : (if kvs.length < sizeLine then some (S.set n (.dct (putP kvs kk c))) else none) = some S' := e'
        split at e2
        · rename_i hl
          cases e2
          have ei := keyP_rep r2 hk
          subst ei
          exact set_dict hu pins s σ H _ _ v ov iv u Q I ro ri rv ⟨p, _, rfl, DPut.k q1 (by rw [← q2.length]; exact hl), k _ g (.refl _) (hS.put h2 (by intro z; cases z) em ⟨putK ws kk v, upd_same, q2.put kk r3⟩)⟩
        · cases e2
    | _ => cases e
  | _ => cases e
def ssSub (to ti te : Sx) : Ss := fun sp S => bindS (te sp S) sp fun v S1 => bindS (to sp S1) sp fun o S2 => bindS (ti sp S2) sp fun i S3 => match vSet o i v S3 with
  | some S4 => .nx sp S4
  | none => .stuck
variable {o i e : Expr} {to ti te : Sx} {pos pos' tpos : Pos}
theorem ss_sub (hu : X.A.units + 1 < cLine) (ho : PE X o (rdE X to)) (hi : PE X i (rdE X ti)) (he : PE X e (rdE X te)) (hs : swapsWithSole [.Subscript o i pos'] e pos.line X.env = pure false := by rfl) (hw : swappedStores [.Subscript o i pos'] e X.env = pure none := by rfl)
    (h1 : (assignEach [.Subscript o i pos'] X.env).map (·.2) = [assign (.Subscript o i pos') X.env] := by rfl)
    (ha : ∀ v, assign (.Subscript o i pos') X.env v = (do
      let ov ← holding [v] (eval o X.env)
      let iv ← holding [v, ov] (eval i X.env)
      standAt pos'
      holding [v, ov, iv] (setItem ov iv v)
      release [v, ov, iv] []) := by intro _; rfl) : PS X (.Assign [.Subscript o i pos'] e pos) (rdS X (ssSub to ti te)) := (ps_asg he (pg_sub ho hi (set_any hu) ha) hs hw h1).imp fun D σ H ⟨g, sp, S, hS, hE, p⟩ => by
  refine (rdE.sq hS hE p).mono fun v H1 ⟨a, g1, S1, l1, q1, e1, r1, p1⟩ => ?_
  refine (rdE.sq q1 e1 p1).mono fun x H2 ⟨b, g2, S2, l2, q2, e2, r2, p2⟩ => ?_
  refine (rdE.sq q2 e2 p2).mono fun y H3 ⟨c, g3, S3, l3, q3, e3, r3, p3⟩ => ?_
  cases h : vSet b c a S3 with
  | none => simp only [h] at p3; exact (show False from p3).elim
  | some S4 =>
    simp only [h] at p3
    exact ⟨g3, S3, b, c, a, S4, q3, RepV.mono l3 _ _ r2, r3, RepV.mono (l2.trans l3) _ _ r1, h, fun H' g' l q => p3 σ H' g' l q (e3.mono l)⟩
/-- xs[i] op= e, xs a list of ints -/
def vItemL : V2 := fun a b S => match b with
  | .int i => (listOf S a).bind fun xs => (atI xs i).map fun x => (x, S)
  | _ => none
theorem get_list : PGet X (rV2 X vItemL) := by
  intro pins s σ H x y v u Q I rx ry ⟨g, S, a, b, hS, r1, r2, p⟩
  cases b with
  | int i =>
    unfold vItemL at p
    simp only at p
    cases hl : listOf S a with
    | none => rw [hl] at p; exact p.elim
    | some xs =>
      rw [hl] at p
      simp only [Option.bind] at p
      cases h2 : atI xs i with
      | none => rw [h2] at p; exact p.elim
      | some z =>
        rw [h2] at p
        obtain ⟨l, vs, q1, q2, q3⟩ := hS.list r1 hl
        subst q1
        cases rx
        obtain ⟨t, rfl⟩ := (show ∃ t, u = Value.int i t from by rw [(show y = V.int i from r2)] at ry; exact ry)
        obtain ⟨w, h3, r3⟩ := q3.at_ h2
        obtain ⟨its, r, pl, hz⟩ := I.list q2.sq
        obtain ⟨j, k1, k2, k3, k4, k5⟩ := atI_get h3
        obtain ⟨w', ew, rw'⟩ := r.get k2
        have hlen := r.length
        have hn := line63
        have fin : EP X pins σ Q w' s := ⟨w, H, I, rw', p.now hS r3⟩
        by_cases h0 : 0 ≤ i
        · have hj : i.toNat = j := by
            rw [seqIndex_of h0 k5] at k1
            exact Option.some.inj k1
          exact wpAny_getItem_list pl.isList h0 (by omega) (by rw [hj]; simpa using ew) fin
        · have hj : (i + (its.toArray.size : Int)).toNat = j := by
            rw [seqIndex_neg (by omega) k4] at k1
            rw [List.size_toArray, ← hlen]
            exact Option.some.inj k1
          exact wpAny_getItem_list_neg pl.isList (by omega) (by rw [List.size_toArray] <;> omega) (by omega) (by rw [hj]; simpa using ew) fin
  | _ => exact p.elim
/-- op= on ints -/
def vIpAdd : V2 := fun a b S => match a, b with
  | .int i, .int j => some (.int (i + j), S)
  | .str x, .str y => if x.length + y.length ≤ sizeLine then some (.str (x ++ y), S) else none
  | _, _ => none
theorem ip_add' : PIp X .Add (rV2 X vIpAdd) := by
  intro pins s σ H x y v u Q I rx ry ⟨g, S, a, b, hS, r1, r2, p⟩
  unfold vIpAdd at p
  split at p
  · rename_i i j
    exact ip_add pins s σ H x y v u Q I rx ry ⟨i, j, r1, r2, p.now hS rfl⟩
  · rename_i z w
    split at p
    · rename_i hl
      exact iop_add_str pins s σ H x y v u Q I rx ry ⟨z, w, r1, r2, hl, p.now hS rfl⟩
    · exact p.elim
  · exact p.elim
theorem ip_sub' : PIp X .Sub (rV2 X vSub) := by
  intro pins s σ H x y v u Q I rx ry ⟨g, S, a, b, hS, r1, r2, p⟩
  cases a <;> cases b <;> try exact p.elim
  rename_i i j
  exact ip_sub pins s σ H x y v u Q I rx ry ⟨i, j, r1, r2, p.now hS rfl⟩
def ssAugSub (op : V2) (to ti te : Sx) : Ss := fun sp S => bindS (to sp S) sp fun o S1 => bindS (ti sp S1) sp fun i S2 => bindS (.of (vItemL o i S2)) sp fun x S3 => bindS (te sp S3) sp fun y S4 => bindS (.of (op x y S4)) sp fun z S5 => match vSet o i z S5 with
  | some S6 => .nx sp S6
  | none => .stuck
theorem PostS.ofSeq {α β : Type} {D : Ends} {g : Gh} {R : Gh → α → β → Prop} {sp : Sl} {o : Option (α × Sto)} {f : α → Sto → SOut} (h : PostS X g (bindS (.of o) sp f) D) :
    PostO X g R o (fun b H1 => ∃ a g1 S1, g.le g1 ∧ RepS X.K X.mp g1 S1 H1 ∧ R g1 a b ∧ PostS X g1 (f a S1) D) := Post.of (PostS.seq h)
theorem PostO.imp {α β : Type} {g : Gh} {R : Gh → α → β → Prop} {o : Option (α × Sto)} {Q Q' : β → Hp → Prop} (h : PostO X g R o Q) (hQ : ∀ b H, Q b H → Q' b H) : PostO X g R o Q' := by
  cases o with
  | none => exact h
  | some p => exact fun b H g' l hS r => hQ b H (h b H g' l hS r)
theorem ss_augsub {op : Operator} {ov : V2} (hu : X.A.units + 1 < cLine) (hop : PIp X op (rV2 X ov)) (ho : PE X o (rdE X to)) (hi : PE X i (rdE X ti)) (he : PE X e (rdE X te))
    (ha : ∀ ov iv new, augStore i ov iv new = (do holding [new, ov, iv] (setItem ov iv new); release [new, ov, iv] []; pure .next) := by intros; rfl) : PS X (.AugAssign (.Subscript o i tpos) op e pos) (rdS X (ssAugSub ov to ti te)) :=
  (ps_augS ho hi get_list he hop (set_any hu) ha).imp fun D σ H ⟨g, sp, S, hS, hE, p⟩ => by
    refine (rdE.sq hS hE p).mono fun v H1 ⟨a, g1, S1, l1, q1, e1, r1, p1⟩ => ?_
    refine (rdE.sq q1 e1 p1).mono fun x H2 ⟨b, g2, S2, l2, q2, e2, r2, p2⟩ => ?_
    refine ⟨g2, S2, a, b, q2, RepV.mono l2 _ _ r1, r2, (PostS.ofSeq (R := RepV X.K) p2).imp fun y H3 ⟨c, g3, S3, l3, q3, r3, p3⟩ => ?_⟩
    refine (rdE.sq q3 (e2.mono l3) p3).mono fun z H4 ⟨d, g4, S4, l4, q4, e4, r4, p4⟩ => ?_
    refine ⟨g4, S4, c, d, q4, RepV.mono l4 _ _ r3, r4, (PostS.ofSeq (R := RepV X.K) p4).imp fun w H5 ⟨f, g5, S5, l5, q5, r5, p5⟩ => ?_⟩
    cases h : vSet a b f S5 with
    | none => simp only [h] at p5; exact (show False from p5).elim
    | some S6 =>
      simp only [h] at p5
      exact ⟨g5, S5, a, b, f, S6, q5, RepV.mono (((l2.trans l3).trans l4).trans l5) _ _ r1, RepV.mono ((l3.trans l4).trans l5) _ _ r2, r5, h, fun H' g' l q => p5 σ H' g' l q ((e4.mono l5).mono l)⟩
/-- name op= e -/
def ssAug (k : Nat) (op : V2) (te : Sx) : Ss := fun sp S => match sp[k]? with
  | some (some x) => bindS (te sp S) sp fun y S1 => bindS (.of (op x y S1)) sp fun z S2 => .nx (sp.set k (some z)) S2
  | _ => .stuck
theorem ss_aug (k : Nat) {x : Str} {op : Operator} {ov : V2} (hop : PIp X op (rV2 X ov)) (hN : X.N.Nodup) (he : PE X e (rdE X te)) (hk : X.N[k]? = some x := by rfl) (hx : Loc X.env.scope x := by first | exact Or.inl rfl | exact Or.inr rfl)
    (hf : X.fn x = true ∨ X.env.scope.names.lookup x = some .local := by first | exact .inl rfl | exact .inr rfl) : PS X (.AugAssign (.Name x pos') op e pos) (rdS X (ssAug k ov te)) := (ps_aug hN hk hx he hop hf).imp fun D σ H ⟨g, sp, S, hS, hE, p⟩ => by
  unfold ssAug at p
  split at p
  · rename_i v hv
    obtain ⟨w, e1, r1⟩ := hE.get k v hv
    refine ⟨w, e1, (rdE.sq hS hE p).mono fun y H1 ⟨a, g1, S1, l1, q1, e1, r2, p1⟩ => ?_⟩
    exact ⟨g1, S1, v, a, q1, RepV.mono l1 _ _ r1, r2, (PostS.ofSeq (R := RepV X.K) p1).imp fun z H2 ⟨c, g2, S2, l2, q2, r3, p2⟩ => p2 _ H2 g2 (.refl _) q2 ((e1.mono l2).set r3 k)⟩
  · exact (show False from p).elim
end

/-! ### methods of lists -/
def isL (S : Sto) (a : PV) : Bool := (listOf S a).isSome
abbrev VM := PV → List PV → Sto → Option (PV × Sto)
def rVM (X : Cx) (o : VM) : V → List V → Hp → VK → Prop := fun x xs H Q => ∃ g S a as, RepS X.K X.mp g S H ∧ RepV X.K g a x ∧ RepVs X.K g as xs ∧ PostO X g (RepV X.K) (o a as S) Q
/-- a method with arguments: chk tells the receiver's type -/
def sxMt (chk : Sto → PV → Bool) (o : VM) (ta : Sx) (tr : Sa) : Sx := fun sp S => (ta sp S).bind fun a S1 => if chk S1 a = true then (tr sp S1).bind fun as S2 => .of (o a as S2) else .stuck
def sxMt0 (chk : Sto → PV → Bool) (o : VM) (ta : Sx) : Sx := fun sp S => (ta sp S).bind fun a S1 => if chk S1 a = true then .of (o a [] S1) else .stuck
structure Chk (X : Cx) (T : String) (chk : Sto → PV → Bool) : Prop where
  ok : ∀ (g : Gh) (S : Sto) (H : Hp) (a : PV) (x : V), RepS X.K X.mp g S H → RepV X.K g a x → chk S a = true → tyV X.K T x H
theorem chk_list {X : Cx} : Chk X "list" isL := ⟨fun g S H a x hS r h => by
  unfold isL at h
  cases hl : listOf S a with
  | none => rw [hl] at h; cases h
  | some xs =>
    obtain ⟨l, vs, q1, q2, q3⟩ := hS.list r hl
    subst q1
    exact .inl ⟨rfl, vs, q2.sq⟩⟩
def isD (S : Sto) (a : PV) : Bool := match a with
  | .ref n => match S[n]? with
    | some (.dct _) => true
    | _ => false
  | _ => false
theorem RepS.dict {K : PySem.W.Frag} {mg : MP} {g : Gh} {S : Sto} {H : Hp} {n : Nat} {x : V} {kvs : List (Key × PV)} (hS : RepS K mg g S H) (r : RepV K g (.ref n) x) (h : S[n]? = some (.dct kvs)) : ∃ p ws, x = .ref p ∧ g.m[n]? = some p ∧ H p = some (.dK ws) ∧ RepKV K g kvs ws := by
  obtain ⟨p, e, em⟩ := r
  obtain ⟨ws, q1, q2⟩ := hS.ob n _ p h em
  exact ⟨p, ws, e, em, q1, q2⟩
theorem chk_dict {X : Cx} : Chk X "dict" isD := ⟨fun g S H a x hS r h => by
  unfold isD at h
  split at h
  · split at h
    · rename_i n kvs h2
      obtain ⟨p, ws, e, em, q1, q2⟩ := hS.dict r h2
      subst e
      exact .inr (.inr (.inl ⟨rfl, .inl ⟨ws, q1⟩⟩))
    · cases h
  · cases h⟩
def isS (_ : Sto) (a : PV) : Bool := match a with
  | .str _ => true
  | _ => false
theorem chk_str {X : Cx} : Chk X "str" isS := ⟨fun g S H a x hS r h => by
  unfold isS at h
  split at h
  · cases (show x = V.str _ from r); rfl
  · cases h⟩
section
variable {X : Cx} {o e : Expr} {es : List Expr} {to : Sx} {tr : Sa} {name : Str} {apos cpos : Pos} {T id : String} {chk : Sto → PV → Bool} {f : VM}
theorem se_mt (pa : PlainAttrs T) (slot : Slot T name id) (hty : typeOf (.builtin id) = pure (.type "method_descriptor")) (hm : MtR X id (rVM X f)) (ck : Chk X T chk) (ho : PE X o (rdE X to)) (ha : PA X (e :: es) (rdA X tr))
    (hbase : attributeBase o name X.env (eval o X.env) = eval o X.env := by rfl)
    (hfew : ((backTo cpos (starEach (e :: es) X.env)).all (fun x => !x.1) && (backToKw cpos (keywordEach [] X.env)).all (fun x => x.1.isSome)
      && decide ((e :: es).length + ([] : List Keyword).length + (if ([] : List Keyword).isEmpty then 0 else 1) < 30)) = true := by rfl)
    (hline : (apos.endLine == cpos.line) = true := by rfl) (hs : starEach (e :: es) X.env = (false, eval e X.env) :: starEach es X.env := by rfl) (hplain : (backTo cpos (starEach es X.env)).any (·.1) = false := by rfl) :
    PE X (.Call (.Attribute o name apos) (e :: es) [] cpos) (rdE X (sxMt chk f to tr)) := (pe_bm pa slot hty hm ho ha hbase hfew hline hs hplain).imp fun σ H Q ⟨g, sp, S, hS, hE, p⟩ => by
  refine (rdE.fst hS hE p).mono fun x H1 ⟨a, g1, S1, l1, q1, e1, r1, p1⟩ => ?_
  split at p1
  · rename_i hc
    refine ⟨ck.ok g1 S1 H1 a x q1 r1 hc, (rdA.fst q1 e1 p1).mono fun xs H2 ⟨as, g2, S2, l2, q2, e2, r2, p2⟩ => ?_⟩
    exact ⟨g2, S2, a, as, q2, RepV.mono l2 _ _ r1, r2, Post.of p2⟩
  · exact p1.elim
theorem se_mt0 (pa : PlainAttrs T) (slot : Slot T name id) (hty : typeOf (.builtin id) = pure (.type "method_descriptor")) (hm : MtR X id (rVM X f)) (ck : Chk X T chk) (ho : PE X o (rdE X to))
    (hbase : attributeBase o name X.env (eval o X.env) = eval o X.env := by rfl) (hline : (apos.endLine == cpos.line) = true := by rfl) : PE X (.Call (.Attribute o name apos) [] [] cpos) (rdE X (sxMt0 chk f to)) :=
  (pe_bm0 pa slot hty hm ho hbase hline).imp fun σ H Q ⟨g, sp, S, hS, hE, p⟩ => by
  refine (rdE.fst hS hE p).mono fun x H1 ⟨a, g1, S1, l1, q1, e1, r1, p1⟩ => ?_
  split at p1
  · rename_i hc
    exact ⟨ck.ok g1 S1 H1 a x q1 r1 hc, g1, S1, a, [], q1, r1, .nil, Post.of p1⟩
  · exact p1.elim
end
def vAppend : VM := fun a as S => match a, as with
  | .ref n, [v] => match S[n]? with
    | some (.lst xs) => if xs.length < sizeLine then some (.non, S.set n (.lst (xs ++ [v]))) else none
    | _ => none
  | _, _ => none
def vExtend : VM := fun a as S => match a, as with
  | .ref n, [v] => match S[n]?, listOf S v with
    | some (.lst xs), some ys => if xs.length + ys.length ≤ sizeLine then some (.non, S.set n (.lst (xs ++ ys))) else none
    | _, _ => none
  | _, _ => none
section
variable {X : Cx}
theorem mt_append' : MtR X "list.append" (rVM X vAppend) := by
  intro pins s σ H x xs v us Q I rx rs ⟨g, S, a, as, hS, r1, r2, p⟩
  unfold vAppend at p
  split at p
  · rename_i n w
    obtain ⟨y, rfl, ry⟩ := r2.one
    split at p
    · rename_i ys h2
      split at p
      · rename_i hl
        obtain ⟨q, ex, em⟩ := r1
        obtain ⟨vs, q1, q2⟩ := hS.ob n _ q h2 em
        refine mt_append pins s σ H x _ v us Q I rx rs ⟨q, vs, y, ex, rfl, q1, by rw [← q2.length]; exact hl, p _ _ g (.refl _) (hS.put h2 (by intro z; cases z) em ⟨vs ++ [y], upd_same, q2.append (.cons ry .nil)⟩) rfl⟩
      · exact p.elim
    · exact p.elim
  · exact p.elim
theorem mt_extendL : MtR X "list.extend" (fun x vs H Q => ∃ l b xs zs, x = .ref l ∧ vs = [.ref b] ∧ H l = some (.lst xs) ∧ LsQ X.K H b zs ∧ xs.length + zs.length ≤ sizeLine ∧ Q .non (upd H l (.lst (xs ++ zs)))) := by
  intro pins s σ H x vs v us Q I rx rv h
  obtain ⟨l, b, xs, zs, rfl, rfl, hH, hB, hz, q⟩ := h
  cases rx
  obtain ⟨u, rfl, ru⟩ := rv.one
  cases ru
  obtain ⟨z, its, n, r, hl, e⟩ := I.lstM hH
  obtain ⟨its2, n2, z2, r2, e2⟩ := hB.obj I
  have hl2 := r2.length
  have hsz : its.toArray.size + its2.toArray.size ≤ sizeLine := by rw [List.size_toArray, List.size_toArray]; omega
  have hlong : ¬ (!its.toArray.isEmpty && Builtin.List.listTooLong (its.toArray.size + its2.toArray.size)) = true := by
    rw [notLongL hsz, Bool.and_false]
    exact Bool.false_ne_true
  refine call_meets F.slot_list_extend ⟨_, e, rfl⟩ F.entry_list_extend (F.args_list_extend_2 _ _)
    (AutoSeq1.list_extend_list_list_0 l its.toArray n b its2.toArray n2 hlong (by rw [List.size_toArray]; omega) (by omega)) ⟨e, e2, ?_⟩
  refine ⟨.non, _, I.lset (its' := its ++ its2) hH e (by simp) (r.append r2) ?_, rfl, q⟩
  rw [List.length_append]
  omega
theorem mt_extend' : MtR X "list.extend" (rVM X vExtend) := by
  intro pins s σ H x xs v us Q I rx rs ⟨g, S, a, as, hS, r1, r2, p⟩
  unfold vExtend at p
  split at p
  · rename_i n w
    obtain ⟨y, rfl, ry⟩ := r2.one
    split at p
    · rename_i ys zs h2 h3
      split at p
      · rename_i hl
        obtain ⟨q, ex, em⟩ := r1
        obtain ⟨vs, q1, q2⟩ := hS.ob n _ q h2 em
        obtain ⟨b, ws, e3, q3, q4⟩ := hS.list ry h3
        subst e3
        refine mt_extendL pins s σ H x _ v us Q I rx rs ⟨q, b, vs, ws, ex, rfl, q1, q3, by rw [← q2.length, ← q4.length]; exact hl, p _ _ g (.refl _) (hS.put h2 (by intro z; cases z) em ⟨vs ++ ws, upd_same, q2.append q4⟩) rfl⟩
      · exact p.elim
    · exact p.elim
  · exact p.elim
end

/-! ### dicts with text and int keys -/
def vDItem : V2 := fun a b S => match a with
  | .ref n => match S[n]? with
    | some (.dct kvs) => (keyP b).bind fun k => (valP kvs k).map fun v => (v, S)
    | _ => none
  | _ => none
def saPairs : List (Sx × Sx) → Sl → Sto → Out (List (PV × PV))
  | [], _, S => .ok [] S
  | (tk, tv) :: r, sp, S => (tk sp S).bind fun k S1 => (tv sp S1).bind fun v S2 => (saPairs r sp S2).bind fun ps S3 => .ok ((k, v) :: ps) S3
def keysP : List (PV × PV) → Option (List (Key × PV))
  | [] => some []
  | (a, v) :: r => match keyP a, keysP r with
    | some k, some ks => some ((k, v) :: ks)
    | _, _ => none
def mergeP (kvs more : List (Key × PV)) : List (Key × PV) := more.foldl (fun acc kv => putP acc kv.1 kv.2) kvs
def sxDisp (ts : List (Sx × Sx)) : Sx := fun sp S => (saPairs ts sp S).pure fun ps S1 => match keysP ps with
  | some kvs => if kvs.length ≤ 15 then .ok (.ref S1.length) (S1 ++ [.dct (mergeP [] kvs)]) else .stuck
  | none => .stuck
section
variable {X : Cx} {o i : Expr} {to ti : Sx} {pos : Pos}
theorem se_dget (hu : X.A.units + 1 < cLine) (ho : PE X o (rdE X to)) (hi : PE X i (rdE X ti)) (hs : NoSl i := by exact fun _ _ => rfl) : PE X (.Subscript o i pos) (rdE X (sx2 vDItem to ti)) := (pe_dget hu ho hi hs).imp fun σ H Q h => by
  refine (rd2 h).mono fun x H1 k => rdE.mono k fun y H2 ⟨g, S, a, b, hS, r1, r2, p⟩ => ?_
  unfold vDItem at p
  split at p
  · split at p
    · rename_i n kvs h2
      cases hk : keyP b with
      | none => rw [hk] at p; exact p.elim
      | some k =>
        rw [hk] at p
        simp only [Option.bind] at p
        cases hv : valP kvs k with
        | none => rw [hv] at p; exact p.elim
        | some v =>
          rw [hv] at p
          obtain ⟨q, ws, e, em, q1, q2⟩ := hS.dict r1 h2
          subst e
          obtain ⟨w, h3, r3⟩ := q2.val hv
          have ey := keyP_rep r2 hk
          subst ey
          exact ⟨q, w, rfl, by rw [← h3]; exact DGet.k q1, p.now hS r3⟩
    · exact p.elim
  · exact p.elim
abbrev RepPs (K : PySem.W.Frag) (g : Gh) : List (PV × PV) → List (V × V) → Prop := Paired fun p q => RepV K g p.1 q.1 ∧ RepV K g p.2 q.2
theorem RepPs.mono {K : PySem.W.Frag} {g g' : Gh} (l : g.le g') {xs : List (PV × PV)} {ws : List (V × V)} (h : RepPs K g xs ws) : RepPs K g' xs ws := Paired.mapP h fun _ _ q => ⟨RepV.mono l _ _ q.1, RepV.mono l _ _ q.2⟩
theorem rdPairs : ∀ (ts : List (Sx × Sx)) {σ : L2.St} {H : Hp} {Q : List (V × V) → Hp → Prop} {g : Gh} {sp : Sl} {S : Sto}, RepS X.K X.mp g S H → RepE X.K g sp σ → Post X g (RepPs X.K) (ExcT X g sp) (saPairs ts sp S) Q → tPairs (ts.map fun t => (rdE X t.1, rdE X t.2)) σ H Q
  | [], σ, H, Q, g, sp, S, hS, hE, p => p [] H g (.refl _) hS .nil
  | (tk, tv) :: ts, σ, H, Q, g, sp, S, hS, hE, p => by
    refine (rdE.fst hS hE (show Post X g (RepPs X.K) (ExcT X g sp) ((tk sp S).bind _) Q from p)).mono fun x H1 ⟨a, g1, S1, l1, q1, e1, r1, p1⟩ => ?_
    refine (rdE.fst q1 e1 p1).mono fun y H2 ⟨b, g2, S2, l2, q2, e2, r2, p2⟩ => ?_
    refine rdPairs ts q2 e2 ((Post.seq (R := RepPs X.K) p2).imp (fun _ _ x => x) fun ps H3 ⟨c, g3, S3, l3, q3, r3, p3⟩ => ?_)
    exact p3 _ H3 g3 (.refl _) q3 (.cons ⟨RepV.mono (l2.trans l3) _ _ r1, RepV.mono l3 _ _ r2⟩ r3)
theorem keysP_rep {K : PySem.W.Frag} {g : Gh} : ∀ {ps : List (PV × PV)} {ws : List (V × V)} {kvs : List (Key × PV)}, RepPs K g ps ws → keysP ps = some kvs → ∃ rs : List (Key × V), ws = rs.map (fun kv => (kV kv.1, kv.2)) ∧ RepKV K g kvs rs
  | [], _, _, .nil, h => by cases h; exact ⟨[], rfl, .nil⟩
  | (a, v) :: ps, _, kvs, .cons (b := b) hh t, h => by
    have h' : (match keyP a, keysP ps with
      | some k, some ks => some ((k, v) :: ks)
      | _, _ => none) = some kvs := h
    cases q1 : keyP a with
    | none => rw [q1] at h'; cases h'
    | some k =>
      cases q2 : keysP ps with
      | none => rw [q1, q2] at h'; cases h'
      | some ks =>
        rw [q1, q2] at h'; cases h'
        obtain ⟨rs, e, r⟩ := keysP_rep t q2
        have e1 := keyP_rep hh.1 q1
        refine ⟨(k, b.2) :: rs, ?_, .cons ⟨rfl, hh.2⟩ r⟩
        rw [List.map_cons, ← e, ← e1]
theorem merge_rep {K : PySem.W.Frag} {g : Gh} : ∀ {more : List (Key × PV)} {rs : List (Key × V)} {kvs : List (Key × PV)} {ws : List (Key × V)}, RepKV K g more rs → RepKV K g kvs ws → RepKV K g (mergeP kvs more) (mergeK ws rs) := by
  intro more rs kvs ws r
  induction r generalizing kvs ws with
  | nil => intro q; exact q
  | @cons p q ps qs h t ih =>
    intro r0
    have e : RepKV K g (putP kvs p.1 p.2) (putK ws q.1 q.2) := by
      have := r0.put p.1 h.2
      rw [← h.1]; exact this
    exact ih e
theorem se_disp {keys : List (Option Expr)} {values : List Expr} {ts : List (Sx × Sx)} (h : PPs X pos keys values (ts.map fun t => (rdE X t.1, rdE X t.2))) (hall : keys.all (·.isSome) = true := by rfl) (hl : keys.length = values.length := by rfl) (h0 : keys ≠ [] := by exact fun z => by cases z)
    (h15 : keys.length ≤ 15 := by decide) : PE X (.Dict keys values pos) (rdE X (sxDisp ts)) := (pe_disp h hall hl h0 h15).imp fun σ H Q ⟨g, sp, S, hS, hE, p⟩ => by
  intro D hD
  have D0 : g.rs D = none := by
    cases e : g.rs D with
    | none => rfl
    | some u => rw [(hS.rs D u e).1] at hD; cases hD
  have h1 := hS.reserve (o := .dK []) hD
  have lv : g.lv { g with rs := upd g.rs D (.dK []) } := ⟨fun _ _ e => e, fun _ _ e => e⟩
  refine rdPairs ts h1 (hE.monoV lv) ?_
  unfold sxDisp at p
  cases hps : saPairs ts sp S with
  | stuck => rw [hps] at p; exact p.elim
  | exc x S1 => rw [hps] at p; exact p.elim
  | ok ps S1 =>
    rw [hps] at p
    intro ws H2 g2 l2 q2 r2
    have gD : g2.rs D = some (.dK []) := by rw [l2.rs]; exact upd_same
    refine ⟨(q2.rs D _ gD).1, ?_⟩
    have p : Post X g (RepV X.K) (ExcT X g sp) (match keysP ps with
      | some kvs => if kvs.length ≤ 15 then Out.ok (PV.ref S1.length) (S1 ++ [SO.dct (mergeP [] kvs)]) else .stuck
      | none => .stuck) Q := p
    cases hk : keysP ps with
    | none => rw [hk] at p; exact p.elim
    | some kvs =>
      rw [hk] at p
      simp only at p
      obtain ⟨rs, e, r⟩ := keysP_rep r2 hk
      split at p
      · rename_i h15'
        refine ⟨rs, e, by rw [← r.length]; exact h15', ?_⟩
        have q3 := q2.rekeep (o' := .dK (mergeK [] rs)) gD ⟨fun _ z => (by cases z), fun _ z => (by cases z)⟩
        have lv3 : g2.lv { g2 with rs := upd g2.rs D (.dK (mergeK [] rs)) } := ⟨fun _ _ e => e, fun _ _ e => e⟩
        have gD3 : ({ g2 with rs := upd g2.rs D (.dK (mergeK [] rs)) } : Gh).rs D = some (.dK (mergeK [] rs)) := upd_same
        obtain ⟨q4, l4⟩ := q3.letIn (so := .dct (mergeP [] kvs)) (r0 := g.rs) gD3 (fun a u e => by
          have ha : a ≠ D := fun z => by rw [z, D0] at e; cases e
          refine ⟨ha, ?_⟩
          show upd g2.rs D _ a = _
          rw [upd_ne ha, l2.rs]
          show upd g.rs D _ a = _
          rw [upd_ne ha]; exact e) ⟨mergeK [] rs, upd_same, (merge_rep (r.monoV lv3) .nil)⟩
        refine p (.ref D) _ _ ⟨fun a o e => (lv.trans (l2.lv.trans (lv3.trans l4))).fz a o e, fun j a e => (lv.trans (l2.lv.trans (lv3.trans l4))).m j a e, rfl, ?_⟩ q4 ⟨D, rfl, ?_⟩
        · exact l2.tb
        · show (g2.m ++ [D])[S1.length]? = some D
          rw [← q2.len]; simp
      · exact p.elim
end
end MX

end

section
/-! repr; defs and their calls; the end of a law; the head's facts. -/
namespace MX
open PySem PySem.Spec PyProof.Rows L2

/-! ### repr -/
def vRepr : VN := fun as S => match as with
  | [a] => match dOf S a with
    | some d => if d.showable = true ∧ d.hasDict = false ∧ d.depth ≤ 64 ∧ d.shown.length ≤ sizeLine then some (.str d.shown, S) else none
    | none => none
  | _ => none
theorem repr_go {prog : Program} {w : World} {A : Around} {E : Value → Shared → Prop} {s : Shared} {v : Value} {d : PyData} {as : List Addr} {Q : Value → Shared → Prop} (r : Reads s.heap v d as) (hs : d.showable = true) (hnd : d.hasDict = false) (hg : A.guards = some []) (hu : A.units + (d.depth + 1) < cLine)
    (hsz : d.shown.length ≤ sizeLine) (hQ : ∀ h' u tk, (∀ b o, s.heap.get? b = some o → h'.get? b = some o) → Q (.str d.shown u) { s with heap := h', toks := tk }) : wpAny (model prog w) A (call (.builtin "repr") [v]) Q E s := by
  cases r with
  | none => simp only [PyData.shown] at hQ; exact PySem.P.repr_of_none (hQ s.heap _ _ fun _ _ e => e)
  | bool b => simp only [PyData.shown] at hQ; exact PySem.P.repr_of_bool (hQ s.heap _ _ fun _ _ e => e)
  | int i t => simp only [PyData.shown] at hQ; exact PySem.P.repr_of_int (by simpa [PyData.showable] using hs) (hQ s.heap _ _ fun _ _ e => e)
  | str x t => simp only [PyData.shown] at hQ hsz; exact PySem.P.repr_of_str (hQ s.heap _ _ fun _ _ e => e) hsz
  | list h1 h2 h3 h4 => exact repr_of_reads' (.list h1 h2 h3 h4) hs (PyData.noDict_hsm hnd) hg hu (fun _ _ e => e) hQ hsz
  | tuple h1 h2 h3 h4 => exact repr_of_reads' (.tuple h1 h2 h3 h4) hs (PyData.noDict_hsm hnd) hg hu (fun _ _ e => e) hQ hsz
  | dict _ _ _ _ _ => simp [PyData.hasDict] at hnd
section
variable {X : Cx}
theorem cl_repr (hg : X.A.guards = some []) (hu : X.A.units + 65 < cLine) : CallN X (.builtin "repr") vRepr := by
  intro pins s σ H xs us Q I r ⟨g, S, as, hS, rr, p⟩
  unfold vRepr at p
  split at p
  · rename_i a
    obtain ⟨x, rfl, r1⟩ := rr.one
    obtain ⟨u, rfl, ru⟩ := vals1 r
    split at p
    · rename_i d hd
      split at p
      · rename_i hc
        obtain ⟨h1, h2, h3, h4⟩ := hc
        obtain ⟨bs, q⟩ := Dp.reads I d x u (hS.data r1 hd) ru
        exact repr_go q h1 h2 hg (by omega) h4 fun h' u' tk hk => ⟨.str d.shown, H, I.kept hk, ⟨_, rfl⟩, p.now hS rfl⟩
      · exact p.elim
    · exact p.elim
  · exact p.elim
end

/-! ### defs -/
abbrev Fs := List PV → Sto → Out PV
/-- a def's promise: it does what f tells -/
def spOf (K : PySem.W.Frag) (mg : MP) (n : Nat) (f : Fs) : Sp := fun vs H Q E => ∃ g S as, RepS K mg g S H ∧ RepVs K g as vs ∧ as.length = n ∧ (match f as S with
  | .ok a S' => ∀ v H' g', g.le g' → RepS K mg g' S' H' → RepV K g' a v → Q v H'
  | .exc x S' => ∀ cls d H' g', g.le g' → RepS K mg g' S' H' → RepX K mg g' x cls d H' → E cls d H'
  | .stuck => False)
structure FnG (P : Program) (w : World) (K : PySem.W.Frag) (mg : Str → Option Value) (base : Heap) (k : Nat) (f : Addr) (fd : FuncData) (ps : List Str) (sem : Fs) : Prop where
  run : ∀ (A : Around) (outer : List Env) (s : Shared) (H : Hp) (args : Args) (us : List Value) (vs : List V) (Q : VK) (E : XK), Room k A → A.guards = some [] → Env0 P w K mg base A outer s H → BindsTo s fd args (ps.zip us) → Vals vs us → spOf K ⟨mg, P, w⟩ ps.length sem vs H Q E →
    codeAny (model P w) A (.call (.ref f) args) (CR (L2.CX P w) outer P w H s Q E) s
theorem FnG.mono {P : Program} {w : World} {K : PySem.W.Frag} {mg : Str → Option Value} {base : Heap} {j k : Nat} {f : Addr} {fd : FuncData} {ps : List Str} {sem : Fs} (F : FnG P w K mg base j f fd ps sem) (h : j ≤ k) :
    FnG P w K mg base k f fd ps sem := ⟨fun A outer s H args us vs Q E hr => F.run A outer s H args us vs Q E (hr.mono h)⟩
/-! the values hold no thing of the store from n on -/
mutual
def below (n : Nat) : PV → Bool
  | .tup xs => belows n xs
  | .lst xs => belows n xs
  | .ref k => decide (k < n)
  | _ => true
def belows (n : Nat) : List PV → Bool
  | [] => true
  | x :: xs => below n x && belows n xs
end
section
variable {K : PySem.W.Frag} {g g' : Gh} {n : Nat}
theorem lt_take {α : Type} {l : List α} {i n : Nat} {a : α} (h : l[i]? = some a) (hi : i < n) : (l.take n)[i]? = some a := by
  rw [List.getElem?_take_of_lt hi]; exact h
mutual
theorem RepV.cut (hf : ∀ a o, g.fz a = some o → g'.fz a = some o) (hm : ∀ (i : Nat) (a : Addr), i < n → g.m[i]? = some a → g'.m[i]? = some a) : ∀ (x : PV) (v : V), below n x = true → RepV K g x v → RepV K g' x v
  | .non, _, _, h => h
  | .bl _, _, _, h => h
  | .int _, _, _, h => h
  | .str _, _, _, h => h
  | .tup xs, _, b, h => by
    obtain ⟨a, vs, e, h1, h2⟩ := h
    exact ⟨a, vs, e, SqT.mono hf h1, RepVs.cut' hf hm xs vs b h2⟩
  | .lst xs, _, b, h => by
    obtain ⟨a, vs, e, h1, h2⟩ := h
    exact ⟨a, vs, e, LsQ.mono hf h1, RepVs.cut' hf hm xs vs b h2⟩
  | .ref k, _, b, h => by
    obtain ⟨a, e, h1⟩ := h
    exact ⟨a, e, hm _ _ (of_decide_eq_true b) h1⟩
theorem RepVs.cut' (hf : ∀ a o, g.fz a = some o → g'.fz a = some o) (hm : ∀ (i : Nat) (a : Addr), i < n → g.m[i]? = some a → g'.m[i]? = some a) : ∀ (xs : List PV) (vs : List V), belows n xs = true → RepVs K g xs vs → RepVs K g' xs vs
  | [], _, _, h => h
  | x :: xs, _, b, h => by
    obtain ⟨v, r, e, h1, h2⟩ := h
    have b' : (below n x && belows n xs) = true := b
    rw [Bool.and_eq_true] at b'
    exact ⟨v, r, e, RepV.cut hf hm x v b'.1 h1, RepVs.cut' hf hm xs r b'.2 h2⟩
end
end
def belowO (n : Nat) : SO → Bool
  | .lst xs => belows n xs
  | .dct kvs => kvs.all fun kv => below n kv.2
  | .dcu kvs => kvs.all fun kv => below n kv.1 && below n kv.2
  | .ins _ fs => fs.all fun kv => below n kv.2
  | .dead => true
theorem pairedAll {α β : Type} {F G : α → β → Prop} {p : α → Bool} : ∀ {l₁ : List α} {l₂ : List β}, Paired F l₁ l₂ → l₁.all p = true → (∀ a b, p a = true → F a b → G a b) → Paired G l₁ l₂
  | _, _, .nil, _, _ => .nil
  | _, _, .cons r t, h, f => by
    rw [List.all_cons, Bool.and_eq_true] at h
    exact .cons (f _ _ h.1 r) (pairedAll t h.2 f)
theorem RepO.cut {K : PySem.W.Frag} {mg : MP} {g g' : Gh} {H : Hp} {n : Nat} (hf : ∀ a o, g.fz a = some o → g'.fz a = some o) (hm : ∀ (i : Nat) (a : Addr), i < n → g.m[i]? = some a → g'.m[i]? = some a) {so : SO} {a : Addr} (b : belowO n so = true) (h : RepO K mg g H so a) : RepO K mg g' H so a := by
  cases so with
  | lst xs => obtain ⟨vs, e, r⟩ := h; exact ⟨vs, e, RepVs.cut' hf hm _ _ b r⟩
  | dct kvs => obtain ⟨ws, e, r⟩ := h; exact ⟨ws, e, pairedAll r b fun a b p q => ⟨q.1, RepV.cut hf hm _ _ p q.2⟩⟩
  | dcu kvs => obtain ⟨ws, e, z, r⟩ := h; exact ⟨ws, e, z, pairedAll r b fun a b p ⟨q1, q2, v, q3, q4⟩ => (by rw [Bool.and_eq_true] at p; exact ⟨q1, RepV.cut hf hm _ _ p.1 q2, v, q3, RepV.cut hf hm _ _ p.2 q4⟩)⟩
  | ins c fs => obtain ⟨C, dx, ws, e0, e, r⟩ := h; exact ⟨C, dx, ws, e0, e, pairedAll r b fun a b p q => ⟨q.1, RepV.cut hf hm _ _ p q.2⟩⟩
  | dead => trivial
/-- the things from n on forgotten, nobody leans on them -/
theorem RepS.forget {K : PySem.W.Frag} {mg : MP} {g : Gh} {S : Sto} {H : Hp} (n : Nat) (h : RepS K mg g S H) (b : ∀ so ∈ S.take n, belowO n so = true) : RepS K mg ⟨g.fz, g.m.take n, g.rs, g.tb⟩ (S.take n) H := by
  have hm : ∀ (i : Nat) (a : Addr), i < n → g.m[i]? = some a → (g.m.take n)[i]? = some a := fun i a hi e => lt_take e hi
  have un : ∀ {α : Type} {l : List α} {i : Nat} {a : α}, (l.take n)[i]? = some a → l[i]? = some a ∧ i < n := fun {α l i a} e => by
    have hi : i < n := by
      have := (List.getElem?_eq_some_iff.mp e).1
      rw [List.length_take] at this; omega
    rw [List.getElem?_take_of_lt hi] at e
    exact ⟨e, hi⟩
  refine ⟨h.fz, by rw [List.length_take, List.length_take, h.len], fun i so a e1 e2 => ?_, fun i so a e1 n1 e2 => h.nofz i so a (un e1).1 n1 (un e2).1, fun i j s1 s2 a e1 n1 e2 n2 e3 e4 => h.inj i j s1 s2 a (un e1).1 n1 (un e2).1 n2 (un e3).1 (un e4).1, fun a o e => ?_, h.tb⟩
  · exact (h.ob i so a (un e1).1 (un e2).1).cut (g := g) (g' := ⟨g.fz, g.m.take n, g.rs, g.tb⟩) (n := n) (fun _ _ e => e) hm (b so (List.mem_of_getElem? e1))
  · obtain ⟨q1, q2, q3⟩ := h.rs a o e
    exact ⟨q1, q2, fun i so e1 n1 e2 => q3 i so (un e1).1 n1 (un e2).1⟩
/-! ### a call -/
section
variable {X : Cx} {k : Nat} {f : Addr} {fd : FuncData} {ps : List Str} {sem : Fs} {x : Str} {p pos : Pos} {e : Expr} {es : List Expr} {tr : Sa}
theorem run_g {pins : List (Addr × Obj)} {σ : L2.St} {H : Hp} {s : Shared} {Q : VK} {us : List Value} {vs : List V} {ds : List Value} {dvs : List V} {dps : List PV} {g : Gh} {S : Sto} {sp : Sl} {as : List PV} (F : FnG X.prog X.w X.K X.mg X.base k f fd ps sem) (hr : Room k X.A) (hgd : X.A.guards = some []) (hb : Binds X.K fd ps ds) (hd : Vals dvs ds) (hdp : ∀ g, RepVs X.K g dps dvs)
    (I : Inv X pins σ H s) (r : Vals vs us) (hS : RepS X.K X.mp g S H) (hE : RepE X.K g sp σ) (ra : RepVs X.K g as vs) (hl : (as ++ dps).length = ps.length) (h : Post X g (RepV X.K) (ExcT X g sp) (sem (as ++ dps) S) Q) :
    wpAny (model X.prog X.w) X.A (call (.ref f) us) (EP X pins σ Q) X.xe s := by
  have r2 : Vals (vs ++ dvs) (us ++ ds) := r.append hd
  have ra2 : RepVs X.K g (as ++ dps) (vs ++ dvs) := ra.append (hdp g)
  have hl2 : (us ++ ds).length = ps.length := by rw [← r2.length, ← ra2.length]; exact hl
  refine wpAny_call (codeAny_mono (F.run X.A X.stack s H ⟨us, []⟩ (us ++ ds) (vs ++ dvs) Q (fun cls d H' => match sem (as ++ dps) S with
    | .exc x S' => ∃ g', g.le g' ∧ RepS X.K X.mp g' S' H' ∧ RepX X.K X.mp g' x cls d H'
    | _ => False) hr hgd I.env0 (hb s us I.kIn hl2) r2 ⟨g, S, as ++ dps, hS, ra2, hl, ?_⟩) fun r s' hq => ?_)
  · cases ho : sem (as ++ dps) S with
    | ok a S' => rw [ho] at h; exact h
    | exc x S' => exact fun cls d H' g' l q r => ⟨g', l, q, r⟩
    | stuck => rw [ho] at h; exact h
  · cases r with
    | error e =>
      have hq' : L2.CX X.prog X.w X.stack H s _ e s' := hq
      cases ho : sem (as ++ dps) S with
      | ok a S' => rw [ho] at hq'; exact ((passes_call (X := X) (W := fun _ _ _ _ => False) (E := fun _ _ _ => False) takes0 (fun _ _ _ _ z => z)) pins σ H s e s' I hq')
      | stuck => rw [ho] at h; exact h.elim
      | exc x S' =>
        rw [ho] at h hq'
        exact h e s' (XE.of_call I (fun cls d H' ⟨g', l, q, r⟩ => ⟨g', l, q, hE.mono l, r⟩) hq')
    | ok fl =>
      cases fl with
      | ret u => exact I.after hq
      | next => exact False.elim hq
      | brk => exact False.elim hq
      | cont => exact False.elim hq
def sxCall (n : Nat) (sem : Fs) (tr : Sa) : Sx := fun sp S => (tr sp S).bind fun as S1 => if as.length = n then sem as S1 else .stuck
theorem se_call (F : FnG X.prog X.w X.K X.mg X.base k f fd ps sem) (hr : Room k X.A) (hgd : X.A.guards = some []) (hg : Gl X x) (hm : X.mg x = some (.ref f)) (hk : PySem.W.keepIn X.K (.ref f) = true) (hb : Binds X.K fd ps [])
    (ha : PA X (e :: es) (rdA X tr)) (hdb : (x == ("__debug__" : Str)) = false := by decide) (he : starEach (e :: es) X.env = (false, eval e X.env) :: starEach es X.env := by rfl) (hpl : (backTo pos (starEach es X.env)).any (·.1) = false := by rfl) :
    PE X (.Call (.Name x p) (e :: es) [] pos) (rdE X (sxCall ps.length sem tr)) := by
  refine ⟨fun pins s σ H Q I ⟨g, sp, S, hS, hE, h⟩ => ?_⟩
  refine wpAny_Call_Name_kw (ld_glob I hg hm ?_ hdb)
  refine PySem.W.callWith_K (h₀ := X.base) I.ok.mod.kin hk (thn (ha.run pos pins s σ H _ I (rdA.fst hS hE h)) fun us s1 ⟨vs, H1, I1, r, as, g1, S1, l1, q1, e1, r1, p1⟩ => ⟨I1.kIn, ?_⟩) he hpl
  split at p1
  · rename_i hl
    exact run_g (ds := []) (dvs := []) (dps := []) F hr hgd hb .nil (fun _ => .nil) I1 r q1 e1 r1 (by rw [List.append_nil]; exact hl) (by rw [List.append_nil]; exact p1)
  · exact p1.elim
theorem se_call0 (F : FnG X.prog X.w X.K X.mg X.base k f fd ps sem) (hr : Room k X.A) (hgd : X.A.guards = some []) (hg : Gl X x) (hm : X.mg x = some (.ref f)) (hk : PySem.W.keepIn X.K (.ref f) = true) (hb : Binds X.K fd ps [])
    (hdb : (x == ("__debug__" : Str)) = false := by decide) : PE X (.Call (.Name x p) [] [] pos) (rdE X (sxCall ps.length sem saNil)) := by
  refine ⟨fun pins s σ H Q I ⟨g, sp, S, hS, hE, h⟩ => ?_⟩
  refine wpAny_Call_Name_kw (ld_glob I hg hm ?_ hdb)
  have h' : Post X g (RepV X.K) (ExcT X g sp) (if ([] : List PV).length = ps.length then sem [] S else .stuck) Q := h
  split at h'
  · rename_i hl
    exact PySem.W.callWith_K0 I.kIn hk (run_g (us := []) (vs := []) (as := []) (ds := []) (dvs := []) (dps := []) F hr hgd hb .nil (fun _ => .nil) I .nil hS hE .nil hl h')
  · exact h'.elim
end

/-! ### a def's body -/
def startP (n : Nat) (as : List PV) : Sl := as.map some ++ List.replicate (n - as.length) none
def bodyF (n : Nat) (t : Ss) : Fs := fun as S => match t (startP n as) S with
  | .rt v S' => .ok v S'
  | .nx _ S' => .ok .non S'
  | .exc x _ S' => .exc x S'
  | _ => .stuck
theorem repE_start {K : PySem.W.Frag} {g : Gh} {as : List PV} {vs : List V} (r : RepVs K g as vs) (N : List Str) : RepE K g (startP N.length as) (L2.start N vs) := by
  have hl := r.length
  refine ⟨by simp [startP, L2.start, hl], fun i x e => ?_⟩
  unfold startP at e
  by_cases hi : i < as.length
  · rw [List.getElem?_append_left (by simpa using hi), List.getElem?_map] at e
    cases q : as[i]? with
    | none => rw [q] at e; cases e
    | some y =>
      rw [q] at e; cases e
      obtain ⟨v, h1, h2⟩ := r.get q
      refine ⟨v, ?_, h2⟩
      unfold L2.start
      rw [List.getElem?_append_left (by simpa [← hl] using hi), List.getElem?_map, h1]
      rfl
  · rw [List.getElem?_append_right (by simpa using hi), List.getElem?_replicate] at e
    split at e <;> cases e
section
variable {P : Program} {w : World} {K : PySem.W.Frag} {mg : Str → Option Value} {base : Heap} {x qual : Str} {params : Arguments} {body : List Stmt} {scope : Scope} {dvs : List V} {kws : List (Str × V)} {f : Addr} {fd : FuncData}
/-- the context of a def's body -/
abbrev CxB (P : Program) (w : World) (K : PySem.W.Frag) (mg : Str → Option Value) (base : Heap) (N : List Str) (qual : Str) (scope : Scope) (f : Addr) (cdv : Value) (A : Around) (outer : List Env) (s : Shared) (H : Hp) (E : XK) : Cx := cxOf (L2.CX P w) P w K mg base N qual scope f cdv A outer s H E
theorem fn_g {N ps : List Str} {k : Nat} {t : Ss} (F : FunD K x qual params body scope dvs kws f fd) (S : FnScope N ps scope)
    (hbody : ∀ (cdv : Value) (A : Around) (outer : List Env) (s : Shared) (H : Hp) (E : XK), Room k (A.deeper (envOfC qual scope s.heap.objs.size f cdv)) → (A.deeper (envOfC qual scope s.heap.objs.size f cdv)).guards = some [] →
      PSs (CxB P w K mg base N qual scope f cdv A outer s H E) body (rdS (CxB P w K mg base N qual scope f cdv A outer s H E) t)) : FnG P w K mg base (k + 1) f fd ps (bodyF N.length t) := by
  obtain ⟨oc, od, dV, kV, doc, pm, an, cdv, ct, osl, rfl, lk, hcd, _, _⟩ := F.ex
  refine ⟨fun A outer s H args us vs Q E hr hgd e0 hb r ⟨g, S0, as, hS, ra, hlen, hsp⟩ => ?_⟩
  have hl : vs.length = ps.length := by rw [← ra.length]; exact hlen
  have KX : K.In s.heap := e0.mod.kin.keeps fun b o e => (e0.bs b o e).1
  have lim : s.heap.NoLimit := e0.mod.nolimit.keeps fun b o e => (e0.bs b o e).1
  have hkind : ∀ y ∈ ps.zip us, scope.names.lookup y.1 = some .local ∨ (scope.names.lookup y.1 = some .cell ∧ ((cellsFrom (s.heap.objs.size + 1) scope.names []).lookup y.1).isSome = true) := fun ⟨n, v⟩ hy => by
    rcases S.par n (List.of_mem_zip hy).1 with q | q
    · exact .inl q
    · exact .inr ⟨q, PySem.W.cellsFrom_some _ _ _ (.inl q)⟩
  refine codeAny_call_function hr.depth (KX _ _ lk) rfl S.co S.gen rfl (PySem.W.codeRec_of KX hcd) (hb _ _ _ _ ?_)
  refine wpAny_newFunctionEnv_cells S.kind hkind fun env he s1 x => ?_
  subst he
  refine ⟨lim.keeps x.toInCall.keep, codeAny_func ?_⟩
  have ht := hbody cdv A outer s H E (hr.deeper _) hgd
  have I : Inv (CxB P w K mg base N qual scope f cdv A outer s H E) [] (L2.start N vs) H s1 := inv_start S hr.hd e0 hl r x
  have hq : rdS (CxB P w K mg base N qual scope f cdv A outer s H E) t { nx := fun _ H' => Q .non H', rt := Q } (L2.start N vs) H := by
    refine ⟨g, startP N.length as, S0, hS, repE_start ra N, ?_⟩
    unfold bodyF at hsp
    cases ho : t (startP N.length as) S0 with
    | rt v S' => rw [ho] at hsp; exact hsp
    | nx sp S' => rw [ho] at hsp; exact fun σ H' g' l q _ => hsp .non H' g' l q rfl
    | exc z sp S' =>
      rw [ho] at hsp
      have tk : Takes (CxB P w K mg base N qual scope f cdv A outer s H E) (fun cls d _ H => E cls d H) := takes_of rfl rfl rfl rfl
      exact Takes.imp tk fun cls d σ' H' ⟨g', l, q1, q2, q3⟩ => hsp cls d H' g' l q1 q3
    | bk sp S' => rw [ho] at hsp; exact hsp.elim
    | ct sp S' => rw [ho] at hsp; exact hsp.elim
    | stuck => rw [ho] at hsp; exact hsp.elim
  refine wpAny_mono (ht.run [] s1 (L2.start N vs) H _ I hq) (fun fl s' hs => ?_) fun e s' hs => hs
  have fin : ∀ {σ' : L2.St} {H' : Hp} {v : V} {u : Value}, Inv (CxB P w K mg base N qual scope f cdv A outer s H E) [] σ' H' s' → RelV v u → Q v H' → CE outer P w H s Q u s' :=
    fun {σ' H' v u} J rv q => ⟨v, H', J.os, J.bare, J.base, J.hok, rv, q⟩
  cases fl with
  | ret u =>
    obtain ⟨v, σ', H', J, rv, q⟩ := hs
    exact fin J rv q
  | next =>
    obtain ⟨σ', H', J, q⟩ := hs
    exact fin (v := V.non) (u := Value.none) J rfl q
  | brk =>
    obtain ⟨_, _, _, q⟩ := hs
    exact False.elim q
  | cont =>
    obtain ⟨_, _, _, q⟩ := hs
    exact False.elim q
/-- exceptions of a body pass a loop's turn -/
theorem passB {N : List Str} {cdv : Value} {A : Around} {outer : List Env} {s : Shared} {H : Hp} {E : XK} : PassesOwn (model (CxB P w K mg base N qual scope f cdv A outer s H E).prog (CxB P w K mg base N qual scope f cdv A outer s H E).w) (CxB P w K mg base N qual scope f cdv A outer s H E).A (CxB P w K mg base N qual scope f cdv A outer s H E).env (CxB P w K mg base N qual scope f cdv A outer s H E).xe :=
  passes_of rfl
end
end MX

end

section
/-! The end of a law; the head's facts with one more look. -/
namespace MX
open PySem PySem.Spec PyProof.Rows L2
theorem ints_repV {K : PySem.W.Frag} {g : Gh} : ∀ ns : List Int, RepVs K g (ns.map PV.int) (ns.map V.int)
  | [] => .nil
  | n :: ns => .cons rfl (ints_repV ns)
theorem law_start {K : PySem.W.Frag} {mg : MP} {H : Hp} {a : Addr} {ns : List Int} {sem : Fs} (hS : LsQ K H a (ns.map V.int)) (h : ∃ S', sem [.lst (ns.map PV.int)] [] = .ok (.bl true) S') :
    spOf K mg 1 sem [.ref a] H (fun v _ => v = .bl true) fun _ _ _ => False := by
  obtain ⟨S', e⟩ := h
  refine ⟨⟨H, [], fun _ => none, []⟩, [], [.lst (ns.map PV.int)], ⟨fun _ _ e => e, rfl, fun i so a e1 _ => by simp at e1, fun i so a e1 _ _ => by simp at e1, fun i j so so' a e1 _ _ _ _ _ => by simp at e1, fun a o e => (by cases e), fun p hp => (by cases hp)⟩, .cons ⟨a, _, rfl, hS, ints_repV ns⟩ .nil, rfl, ?_⟩
  rw [e]
  exact fun v H' g' _ _ r => r
theorem law_run {P : Program} {w : World} {K : PySem.W.Frag} {mg mb : Str → Option Value} {k : Nat} {fa a : Addr} {fd : FuncData} {x : Str} {sem : Fs} {s₁ : Shared} {vs : List Value} {ns : List Int}
    (KX : K.In s₁.heap) (hns : s₁.heap.Ns mainGlobals mg) (hb : s₁.heap.Ns builtinsNs mb) (hbb : ∀ x : Str, x ≠ "__name__" → mb x = bootBuiltins x) (hlim : s₁.heap.NoLimit) (hg : s₁.gens = #[])
    (ha : s₁.heap.get? a = some { cls := .type "list", data := .seq vs.toArray }) (hi : IntsAre vs ns) (hl : ns.length ≤ sizeLine) (hr : Room k callerA)
    (F : ∀ base : Heap, K.In base → base.Ns mainGlobals mg → FnG P w K mg base k fa fd [x] sem) (hbind : ∀ (s : Shared) (u : Value), BindsTo s fd ⟨[u], []⟩ [(x, u)])
    (hsem : ∃ S', sem [.lst (ns.map PV.int)] [] = .ok (.bl true) S') :
    codeAny (model P w) callerA (.call (.ref fa) ⟨[.ref a], []⟩) (fun r s' => r = .ok (.ret (.bool true)) ∧ OldK s₁.heap s'.heap ∧ s'.os = s₁.os ∧ AllBare s'.gens) s₁ := by
  have rv := vals_ints hi
  have lenV := hi.length
  -- from an abstract heap in which nothing but the script may be tracked
  have core : ∀ H : Hp, Only H → LsQ K H a (ns.map V.int) → HOk P w H s₁.heap → (∀ b, H b ≠ none → b = a) → (H a ≠ none → K.lookup a = none) →
      codeAny (model P w) callerA (.call (.ref fa) ⟨[.ref a], []⟩) (fun r s' => r = .ok (.ret (.bool true)) ∧ OldK s₁.heap s'.heap ∧ s'.os = s₁.os ∧ AllBare s'.gens) s₁ := by
    intro H hO hS hok hA hK
    have hsp : spOf K ⟨mg, P, w⟩ ([x] : List Str).length sem [.ref a] H (fun v _ => v = .bl true) fun _ _ _ => False := law_start hS hsem
    have base_of : ∀ {b : Addr} {o : Obj}, s₁.heap.get? b = some o → H b = none → (hidT s₁.heap H).get? b = some o := fun e n => hidT_get e n
    have noA : ∀ {b : Addr} {o : Obj} {es : Array DictEntry} {ep : Nat}, s₁.heap.get? b = some o → o.data = .dict es ep → H b = none := fun {b o es ep} e d => by
      cases q : H b with
      | none => rfl
      | some u =>
        have e' : b = a := hA b (by rw [q]; simp)
        subst e'
        rw [ha] at e; cases e
        have d' : Data.seq vs.toArray _ = Data.dict es ep := d
        cases d'
    have nsK : ∀ {b : Addr} {m : Str → Option Value}, s₁.heap.Ns b m → (hidT s₁.heap H).Ns b m := fun {b m} ⟨o, es, ep, e, d, r⟩ => ⟨o, es, ep, base_of e (noA e d), d, r⟩
    have hKb : K.In (hidT s₁.heap H) := fun b o e => base_of (KX b o e) (by
      cases q : H b with
      | none => rfl
      | some u =>
        have e' : b = a := hA b (by rw [q]; simp)
        subst e'
        rw [hK (by rw [q]; simp)] at e; cases e)
    have hM : Mod K mg (hidT s₁.heap H) := ⟨hKb, nsK hns, ⟨mb, nsK hb, hbb⟩, let ⟨mc, h1, h2⟩ := hlim; ⟨mc, nsK h1, h2⟩⟩
    have e0 : Env0 P w K mg (hidT s₁.heap H) callerA [] s₁ H := ⟨rfl, hM, fun b o e => of_hidT e, Nat.le_of_eq (hidT_size _ _), trivial, fun b hb => absurd (show b ∈ ([] : List Addr) from hb) (by simp), hok, .of_eq hg⟩
    refine codeAny_mono ((F _ hKb (nsK hns)).run callerA [] s₁ H ⟨[.ref a], []⟩ [.ref a] [.ref a] _ _ hr rfl e0 (hbind s₁ (.ref a)) (.cons rfl .nil) hsp) fun r s' h => ?_
    cases r with
    | error e =>
      have h' : L2.CX P w [] H s₁ (fun _ _ _ => False) e s' := h
      obtain ⟨_, _, _, _, _, _, _, _, _, _, _, _, z⟩ := h'
      exact z.elim
    | ok fl =>
      cases fl with
      | next => exact False.elim h
      | brk => exact False.elim h
      | cont => exact False.elim h
      | ret u =>
        obtain ⟨v, H', os, bare, un, hok', r', q⟩ := h
        have q' : v = .bl true := q
        subst q'
        obtain rfl : u = Value.bool true := r'
        refine ⟨rfl, OldK.of_keep fun b o e => ?_, os, bare⟩
        cases q : H b with
        | none => exact un.keep b o e q (by intro z; exact absurd (show b ∈ ([] : List Addr) from z) (by simp)) (by simp)
        | some u =>
          rcases hO b with z | ⟨ob, xs, z⟩
          · rw [q] at z; cases z
          · have z2 := un.frzs b ob _ z
            obtain ⟨e1, _⟩ := hok b _ z
            obtain ⟨e2, _⟩ := hok' b _ z2
            rw [e] at e1; cases e1
            exact e2
  cases hk : K.lookup a with
  | some o =>
    -- the script is one of the module's own objects
    have e := KX a o hk
    rw [ha] at e
    cases e
    refine core (fun _ => none) (fun _ => .inl rfl) (.inr ⟨vs, _, hk, by rw [List.length_map]; exact hl, rv⟩) (fun b u z => by have z' : (none : Option HO) = some u := z; cases z') (fun b z => absurd rfl z) fun z => absurd rfl z
  | none =>
    refine core (fun b => if b = a then some (.frz { cls := .type "list", data := .seq vs.toArray } (.lst (ns.map V.int))) else none) (fun b => ?_) (.inl (.inr ⟨{ cls := .type "list", data := .seq vs.toArray }, if_pos rfl⟩)) (fun b u z => ?_) (fun b z => ?_) fun _ => hk
    · by_cases hb : b = a
      · exact .inr ⟨_, _, if_pos hb⟩
      · exact .inl (if_neg hb)
    · by_cases hb : b = a
      · have z' := (if_pos hb).symm.trans z
        cases z'
        subst hb
        exact ⟨ha, by rw [List.length_map]; exact hl, vs, _, rv, ha⟩
      · have z' := (if_neg hb).symm.trans z
        cases z'
    · by_cases hb : b = a
      · exact hb
      · exact absurd (if_neg hb) z

/-- the goal that the head leaves, from the law's own function -/
theorem law_walk {l : PySem.W.OpenLaw} {n k : Nat} {q : Program} {loose : List Str} {XP : (Str → Option Value) → Heap → Prop} {YP : World → Heap → Prop} {d : DefRec} {x : Str} (hn : l.most = some n) (hn2 : n ≤ sizeLine) (hdf : d.params.defaults = []) (hr : Room k callerA)
    (F : ∀ (w : World) (mg : Str → Option Value) (fa : Addr) (h : Heap), YP w h → h.Ns mainGlobals mg → mg d.name = some (.ref fa) → ∃ (K : PySem.W.Frag) (fd : FuncData) (sem : Fs), K.In h ∧ (∀ (s : Shared) (u : Value), BindsTo s fd ⟨[u], []⟩ [(x, u)]) ∧
      (∀ ns : List Int, ns.length ≤ n → ∃ S', sem [.lst (ns.map PV.int)] [] = .ok (.bl true) S') ∧ ∀ base : Heap, K.In base → base.Ns mainGlobals mg → FnG l.prog w K mg base k fa fd [x] sem) :
    PySem.W.WalkO q loose XP YP l.row.toRowW d [] (fun f vs => PySem.call f vs) := by
  refine Att.attach_call hn hdf fun w s₀ s₁ mg mb fa o pm cd doc a vs ns G Y ho hd hcd hmg hobj hints hlen hg => ?_
  obtain ⟨K, fd, sem, KX, hb, hsem, hF⟩ := F w mg fa _ Y G.T.g hmg
  exact law_run KX G.T.g G.T.b G.T.builtins G.T.nolimit hg hobj hints (Nat.le_trans hlen hn2) hr hF hb (hsem ns hlen)
end MX
namespace He
open PySem PySem.Spec PyProof.Rows L2
/-! ### the head's facts, and one more look at the written part -/
abbrev AlM : Type := AlD × Bool
def obsM (fa : List Fa) (fn : List DefD) (b : PySem.W.Frag → Bool) (K : PySem.W.Frag) : AlM := (obsD fa fn K, b K)
def SaysM (fa : List Fa) (fn : List DefD) (b : PySem.W.Frag → Bool) (K : PySem.W.Frag) : Prop := obsM fa fn b K = (valD fn, true)
def obsMG (n : Nat) (fa : List Fa) (fn : List DefD) (b : PySem.W.Frag → Bool) (g : Addr → Option Obj) : AlM := obsM fa fn b (frG g (asD g n))
def hookM (n : Nat) (fa : List Fa) (fn : List DefD) (b : PySem.W.Frag → Bool) : PySem.W.Hook where
  α := AlM
  obs := fun s => obsMG n fa fn b s.heap.get?
  val := fun _ => (valD fn, true)
  says := fun _ h => ∃ K : PySem.W.Frag, K.In h ∧ SaysM fa fn b K
  of := fun _ _ e => ⟨_, frG_in, e⟩
  keeps := fun _ _ _ ⟨K, hK, c⟩ k => ⟨K, PySem.W.Frag.In.keeps hK k, c⟩
theorem obsMG_eq {n : Nat} {fa : List Fa} {fn : List DefD} {b : PySem.W.Frag → Bool} {g : Addr → Option Obj} {s : Shared} (h : ∀ a, g a = s.heap.get? a) : obsMG n fa fn b g = (hookM n fa fn b).obs s := by
  have e : g = s.heap.get? := funext h
  rw [e] <;> rfl
theorem SaysM.d {fa : List Fa} {fn : List DefD} {b : PySem.W.Frag → Bool} {K : PySem.W.Frag} (c : SaysM fa fn b K) : SaysD fa fn K := congrArg (fun z : AlM => z.1) c
theorem SaysM.b {fa : List Fa} {fn : List DefD} {b : PySem.W.Frag → Bool} {K : PySem.W.Frag} (c : SaysM fa fn b K) : b K = true := congrArg (fun z : AlM => z.2) c
end He

end

section
/-! Small things that printed texts name. -/
namespace MX
open PySem PySem.Spec PyProof.Rows L2
theorem hu1 {k : Nat} {A : Around} (r : Room k A) : A.units + 1 < cLine := by have := r.un; omega
theorem hu64 {k : Nat} {A : Around} (r : Room k A) : A.units + 64 < cLine := by have := r.un; omega
theorem hu65 {k : Nat} {A : Around} (r : Room k A) : A.units + 65 < cLine := by have := r.un; omega
section
variable {X : Cx} {x : Str} {pos : Pos}
theorem se_gint {i : Int} (hg : Gl X x) (h : ∃ t, X.mg x = some (.int i t)) (hd : (x == ("__debug__" : Str)) = false := by decide) : PE X (.Name x pos) (rdE X (sxC (.int i))) := by
  obtain ⟨t, e⟩ := h
  exact se_glob hg e (v := .int i) ⟨t, rfl⟩ (fun _ => rfl) hd
theorem se_gstr {z : Str} (hg : Gl X x) (h : ∃ t, X.mg x = some (.str z t)) (hd : (x == ("__debug__" : Str)) = false := by decide) : PE X (.Name x pos) (rdE X (sxC (.str z))) := by
  obtain ⟨t, e⟩ := h
  exact se_glob hg e (v := .str z) ⟨t, rfl⟩ (fun _ => rfl) hd
/-- plain values that lean on nothing -/
def flatP : PV → Option V
  | .non => some .non
  | .bl b => some (.bl b)
  | .int i => some (.int i)
  | .str z => some (.str z)
  | _ => none
theorem flat_rep {K : PySem.W.Frag} {g : Gh} : ∀ {xs : List PV} {vs : List V}, xs.map flatP = vs.map some → RepVs K g xs vs
  | [], [], _ => .nil
  | [], _ :: _, h => by cases h
  | _ :: _, [], h => by cases h
  | a :: r, v :: t, h => by
    rw [List.map_cons, List.map_cons] at h
    injection h with h1 h2
    refine .cons ?_ (flat_rep h2)
    cases a <;> cases h1 <;> rfl
theorem se_gtup {xs : List PV} {vs : List V} (hg : Gl X x) (h : ∃ a, X.mg x = some (.ref a) ∧ ∀ H, SqT X.K H a vs) (hd : (x == ("__debug__" : Str)) = false := by decide) (hf : xs.map flatP = vs.map some := by rfl) : PE X (.Name x pos) (rdE X (sxC (.tup xs))) := by
  obtain ⟨a, e, q⟩ := h
  exact se_glob hg e (v := .ref a) rfl (fun g => ⟨a, vs, rfl, q _, flat_rep hf⟩) hd

/-! ### max(xs) of data -/
def alikeB (ds : List PyData) : Bool := (ds.all fun x => ds.all fun y => PySem.W.alike x y) && ds.all fun x => match x with
  | .none => false
  | _ => true
theorem alikeB_all {ds : List PyData} (h : alikeB ds = true) : PySem.W.AlikeAll ds := by
  unfold alikeB at h
  rw [Bool.and_eq_true, List.all_eq_true, List.all_eq_true] at h
  refine ⟨fun x hx y hy => (List.all_eq_true.mp (h.1 x hx)) y hy, fun x hx e => ?_⟩
  subst e
  have := h.2 _ hx
  simp at this
def gtAt (ds : List PyData) (i j : Nat) : Bool := PySem.W.dataLt (ds.getD j .none) (ds.getD i .none)
def ltAt (ds : List PyData) (i j : Nat) : Bool := PySem.W.dataLt (ds.getD i .none) (ds.getD j .none)
theorem vals_get' : ∀ {vs : List V} {us : List Value} {i : Nat} {u : Value}, Vals vs us → us[i]? = some u → ∃ v, vs[i]? = some v ∧ RelV v u
  | _, _, _, _, .nil, e => by simp at e
  | _ :: _, _ :: _, 0, u, .cons (a := a) r t, e => by
    simp at e; subst e
    exact ⟨_, rfl, r⟩
  | _ :: _, _ :: _, i + 1, u, .cons r t, e => by
    obtain ⟨v, q1, q2⟩ := vals_get' (i := i) t (by simpa using e)
    exact ⟨v, by simpa using q1, q2⟩
def vMaxL : VN := fun as S => match as with
  | [a] => match listOf S a with
    | some xs => match toDs xs with
      | some ds => if 0 < ds.length ∧ alikeB ds = true ∧ PyData.depthAll ds ≤ 60 then (xs[argBest (gtAt ds) (ds.length - 1)]?).map fun v => (v, S) else none
      | none => none
    | none => none
  | _ => none
theorem cl_maxL (hc : X.calm = true) (hu : X.A.units + 64 < cLine) : CallN X (.builtin "max") vMaxL := by
  intro pins s σ H xs us Q I r ⟨g, S, as, hS, rr, p⟩
  unfold vMaxL at p
  split at p
  · rename_i a
    split at p
    · rename_i ys e1
      split at p
      · rename_i ds e2
        split at p
        · rename_i hcond
          obtain ⟨h0, h1, h2⟩ := hcond
          obtain ⟨x, rfl, r1⟩ := rr.one
          obtain ⟨l, vs, q1, q2, q3⟩ := hS.list r1 e1
          subst q1
          rw [Vals.ref1 r]
          obtain ⟨its, n, z, rv, eo⟩ := q2.obj I
          have hl : s.heap.IsList l its.toArray := ⟨_, eo, rfl, n, rfl⟩
          have hdp : DpAll X.K H vs ds := toDs_rep hS.fz ys vs ds q3 e2
          obtain ⟨bs, hr⟩ := Dp.readsAll I ds _ its hdp rv
          have hr' : ReadsAll s.heap its.toArray.toList ds bs := hr
          have hn : its.toArray.size = ds.length := PySem.W.readsAll_len hr'
          refine PySem.call_max_walkH (PySem.W.iter_listW (A := X.A.in1) (I.ok.hd hc) hl fun s₂ e W st hfp hw hk => ?_)
          refine ⟨_, _, _, _, _, _, _, s.heap, _, rfl, W, st, hfp, by omega, hw, hk, PySem.W.cmpIn_gt (A := X.A.in1) hr' (alikeB_all h1) (by show X.A.units + 1 + _ < _; omega), fun v s' hP m => ?_⟩
          obtain ⟨h', tk, rfl, hk'⟩ := PySem.W.moved_old e rfl m
          rw [hn] at hP
          have hP' : its[argBest (gtAt ds) (ds.length - 1)]? = some v := (List.getElem?_toArray ..).symm.trans hP
          obtain ⟨w', w1, w2⟩ := vals_get' rv hP'
          obtain ⟨y, y1, y2⟩ := q3.get' w1
          rw [y1] at p
          exact ⟨w', H, I.kept hk', w2, p.now hS y2⟩
        · exact p.elim
      · exact p.elim
    · exact p.elim
  · exact p.elim
end

/-! ### a function's record, by its place -/
def fd0 : FuncData := { name := "", qualname := "", params := { posonlyargs := [], args := [], vararg := none, kwonlyargs := [], kw_defaults := [], kwarg := none, defaults := [] }, body := .stmts [], scope := { (default : Scope) with }, globals := 0, closure := [], defaults := .none, kwdefaults := .none }
def fdOf (K : PySem.W.Frag) (a : Addr) : FuncData := match K.lookup a with
  | some o => match o.data with
    | .func fd => fd
    | _ => fd0
  | none => fd0
theorem FunD.toOf {K : PySem.W.Frag} {x qual : Str} {params : Arguments} {body : List Stmt} {scope : Scope} {dvs : List V} {kws : List (Str × V)} {f : Addr} {fd : FuncData} (F : FunD K x qual params body scope dvs kws f fd) : FunD K x qual params body scope dvs kws f (fdOf K f) := by
  have e : fdOf K f = fd := by
    obtain ⟨oc, od, dV, kV, doc, pm, an, cdv, ct, osl, e1, e2, _⟩ := F.ex
    unfold fdOf
    rw [e2]
  rw [e]; exact F

/-! ### t * 1 -/
theorem tuple_mul1 (l : Addr) (its : Array Value) (n : Nat) (dd : Option Addr) (sl : Array (Option Value)) (u : Tok) :
    Meets (Builtin.«tuple.__mul__» ⟨[.ref l, .int 1 u], []⟩) (fun _ R s => s.heap.get? l = some { cls := .type "tuple", dict := dd, data := .seq its n, slots := sl } ∧ R (.ok (.ret (Value.ref l))) s) :=
  .of_wp fun prog w A R s h => by
    obtain ⟨hp, g, d, tk, os⟩ := s
    obtain ⟨hl, h⟩ := h
    have f1 := AutoSeq1.idx_int
    wp_walk using wpAny_loadPart' hl
    exact ⟨_, rfl, h⟩
def vMulT : V2 := fun a b S => match a, b with
  | .tup xs, .int k => if k = 1 then some (.tup xs, S) else vMul (.tup xs) (.int k) S
  | a, b => vMul a b S
theorem op_mulT {X : Cx} : Op2 X (binaryOp .Mult) vMulT := by
  intro pins s σ H x y v u Q I rx ry ⟨g, S, a, b, hS, r1, r2, p⟩
  unfold vMulT at p
  split at p
  · rename_i xs k
    split at p
    · rename_i hk
      subst hk
      obtain ⟨l, vs, q1, q2, q3⟩ := id r1
      subst q1
      cases rx
      have e2 : y = V.int 1 := r2
      subst e2
      obtain ⟨t, rfl⟩ := ry
      obtain ⟨its, r, ⟨⟨cls, dd, data, sl⟩, ho, hc, n, hd⟩, hs⟩ := I.tuple (SqT.mono hS.fz q2)
      simp only at hc hd
      subst hc hd
      refine wpAny_binaryOp_repeat_ref (T := "tuple") (U := "int") (by decide) ⟨_, ho, rfl⟩ (fun s' => typeIs_int s' 1 t) noFill_tuple_mul F.fills_int_mul F.slot_int_rmul repeat_tuple F.slot_int_index.lookup
        (call_meets F.slot_int_rmul (typeIs_int s 1 t) F.entry_int_rmul (F.args_int_rmul_2 _ _) (int_rmul_tuple 1 t l its.toArray n dd sl)
          ⟨ho, rfl, ⟨_, ho, rfl⟩, call_meets F.slot_tuple_mul ⟨_, ho, rfl⟩ F.entry_tuple_mul (F.args_tuple_mul_2 _ _) (tuple_mul1 l its.toArray n dd sl t) ⟨ho, ?_⟩⟩)
      exact ⟨.ref l, H, I, rfl, p.now hS r1⟩
    · exact op_mul' pins s σ H x y v u Q I rx ry ⟨g, S, _, _, hS, r1, r2, p⟩
  · exact op_mul' pins s σ H x y v u Q I rx ry ⟨g, S, _, _, hS, r1, r2, p⟩
/-- texts, of any letters; else as before -/
def vEqS : V2 := fun a b S => match a, b with
  | .str x, .str y => some (.bl (decide (x = y)), S)
  | a, b => vEq a b S
theorem op_eqS {X : Cx} (hu : X.A.units + 64 < cLine) : Op2 X (compareOp .Eq) vEqS := by
  intro pins s σ H x y v u Q I rx ry ⟨g, S, a, b, hS, r1, r2, p⟩
  unfold vEqS at p
  split at p
  · rename_i z w
    have e1 : x = V.str z := r1
    have e2 : y = V.str w := r2
    subst e1 e2
    refine op_eq pins s σ H _ _ v u Q I rx ry ⟨rfl, ?_⟩
    have e : decide (V.str z = V.str w) = decide (z = w) := decide_eq_decide.mpr ⟨fun q => by cases q; rfl, fun q => by rw [q]⟩
    rw [e]
    exact p.now hS rfl
  · exact op_eq' hu pins s σ H x y v u Q I rx ry ⟨g, S, _, _, hS, r1, r2, p⟩
end MX

end

section
/-! Calls apart: a def called with data alone is a function of them; what it makes for itself is nobody's. -/
namespace MX
open PySem PySem.Spec PyProof.Rows L2

inductive RR (α : Type) where
  | ok (a : α) | exc (x : EX) | stuck

/-! ### values by what they hold -/
def mapO {α β : Type} (f : α → Option β) : List α → Option (List β)
  | [] => some []
  | x :: xs => match f x with
    | none => none
    | some y => (mapO f xs).map (y :: ·)
def thawN (S : Sto) (n : Nat) : Nat → PV → Option PV
  | 0, _ => none
  | f + 1, v => match v with
    | .tup xs => (mapO (thawN S n f) xs).map .tup
    | .lst xs => (mapO (thawN S n f) xs).map .lst
    | .ref j => if n ≤ j then match S[j]? with
      | some (.lst xs) => (mapO (thawN S n f) xs).map .lst
      | _ => none else none
    | v => some v
/-- data as it is; else the new lists in it by what they hold -/
def thaw (S : Sto) (n f : Nat) (v : PV) : Option PV := if below 0 v = true then some v else thawN S n f v
def thawF (S : Sto) (n f : Nat) : List (Str × PV) → Option (List (Str × PV))
  | [] => some []
  | (k, x) :: xs => match thaw S n f x with
    | none => none
    | some y => (thawF S n f xs).map ((k, y) :: ·)

section
variable {K : PySem.W.Frag} {mg : MP} {g g' : Gh} {S S' : Sto} {H H' : Hp}
/-- what stands for the things apart from the ones named -/
def Stash (g : Gh) (S : Sto) (ks : List Nat) (a : Addr) : Prop := ∃ (i : Nat) (so : SO), i ∉ ks ∧ S[i]? = some so ∧ so ≠ .dead ∧ g.m[i]? = some a
noncomputable def apartRs (g : Gh) (S : Sto) (H : Hp) (ks : List Nat) : Hp := open Classical in fun a => if Stash g S ks a then H a else g.rs a
noncomputable def apart (g : Gh) (S : Sto) (H : Hp) (ks : List Nat) : Gh := ⟨g.fz, ks.map (fun k => (g.m[k]?).getD 0), apartRs g S H ks, g.tb⟩
def pickS (S : Sto) (ks : List Nat) : Sto := ks.map fun k => (S[k]?).getD .dead
theorem pick_get {ks : List Nat} {j : Nat} {so : SO} (hl : ∀ k ∈ ks, ∃ so, S[k]? = some so ∧ so ≠ .dead) (e : (pickS S ks)[j]? = some so) : ∃ k, ks[j]? = some k ∧ S[k]? = some so := by
  unfold pickS at e
  rw [List.getElem?_map] at e
  cases q : ks[j]? with
  | none => rw [q] at e; cases e
  | some k =>
    rw [q] at e
    obtain ⟨so', h1, h2⟩ := hl k (List.mem_of_getElem? q)
    refine ⟨k, rfl, ?_⟩
    have e' : (S[k]?).getD .dead = so := Option.some.inj e
    rw [h1] at e' ⊢
    exact congrArg some e'
theorem apart_m {ks : List Nat} (h : RepS K mg g S H) (hl : ∀ k ∈ ks, ∃ so, S[k]? = some so ∧ so ≠ .dead) {j k : Nat} (e : ks[j]? = some k) : (apart g S H ks).m[j]? = g.m[k]? := by
  show (ks.map fun k => (g.m[k]?).getD 0)[j]? = _
  rw [List.getElem?_map, e]
  obtain ⟨so, h1, _⟩ := hl k (List.mem_of_getElem? e)
  obtain ⟨a, h2⟩ := h.addr h1
  simp [h2]
theorem RepS.toApart {ks : List Nat} (h : RepS K mg g S H) (hn : ks.Nodup) (hl : ∀ k ∈ ks, ∃ so, S[k]? = some so ∧ so ≠ .dead) (hb : ∀ so ∈ pickS S ks, belowO 0 so = true) : RepS K mg (apart g S H ks) (pickS S ks) H := by
  have at_ : ∀ {j : Nat} {so : SO} {a : Addr}, (pickS S ks)[j]? = some so → (MX.apart g S H ks).m[j]? = some a → ∃ k, ks[j]? = some k ∧ S[k]? = some so ∧ g.m[k]? = some a := fun {j so a} e1 e2 => by
    obtain ⟨k, q1, q2⟩ := pick_get hl e1
    exact ⟨k, q1, q2, by rw [← apart_m h hl q1]; exact e2⟩
  refine ⟨h.fz, by simp [MX.apart, pickS], fun j so a e1 e2 => ?_, fun j so a e1 n e2 => ?_, fun j1 j2 s1 s2 a e1 n1 e2 n2 e3 e4 => ?_, fun a o e => ?_, h.tb⟩
  · obtain ⟨k, q1, q2, q3⟩ := at_ e1 e2
    exact (h.ob k so a q2 q3).cut (g := g) (g' := MX.apart g S H ks) (n := 0) (fun _ _ e => e) (fun i a hi _ => absurd hi (Nat.not_lt_zero _)) (hb so (List.mem_of_getElem? e1))
  · obtain ⟨k, q1, q2, q3⟩ := at_ e1 e2
    exact h.nofz k so a q2 n q3
  · obtain ⟨k1, p1, p2, p3⟩ := at_ e1 e3
    obtain ⟨k2, q1, q2, q3⟩ := at_ e2 e4
    have := h.inj k1 k2 s1 s2 a p2 n1 q2 n2 p3 q3
    subst this
    exact (List.getElem?_inj (List.getElem?_eq_some_iff.mp p1).1 hn).mp (p1.trans q1.symm)
  · have e' : apartRs g S H ks a = some o := e
    unfold apartRs at e'
    split at e'
    · rename_i hs
      obtain ⟨i, so, i1, i2, i3, i4⟩ := hs
      refine ⟨e', h.nofz i so a i2 i3 i4, fun j s1 f1 f2 f3 => ?_⟩
      obtain ⟨k, q1, q2, q3⟩ := at_ f1 f3
      have := h.inj i k so s1 a i2 i3 q2 f2 i4 q3
      subst this
      exact i1 (List.mem_of_getElem? q1)
    · obtain ⟨r1, r2, r3⟩ := h.rs a o e'
      refine ⟨r1, r2, fun j s1 f1 f2 f3 => ?_⟩
      obtain ⟨k, q1, q2, q3⟩ := at_ f1 f3
      exact r3 k s1 q2 f2 q3

/-- the new lists stay as they are -/
def NewL (g' : Gh) (S' : Sto) (n : Nat) (a : Addr) : Prop := ∃ (j : Nat) (xs : List PV), n ≤ j ∧ S'[j]? = some (.lst xs) ∧ g'.m[j]? = some a
noncomputable def backFz (g' : Gh) (S' : Sto) (H' : Hp) (n : Nat) : Hp := open Classical in fun a => if NewL g' S' n a then H' a else g'.fz a
noncomputable def backG (g g' : Gh) (S' : Sto) (H' : Hp) (n : Nat) : Gh := ⟨backFz g' S' H' n, g.m, g.rs, g.tb⟩
theorem backFz_fz {n : Nat} (h : RepS K mg g' S' H') {a : Addr} {o : HO} (e : g'.fz a = some o) : backFz g' S' H' n a = some o := by
  unfold backFz
  split
  · exact h.fz a o e
  · exact e
theorem RepS.toArapart {g : Gh} {S : Sto} {H : Hp} (h : RepS K mg g S H) : RepS K mg (MX.apart g S H []) [] H := h.toApart (ks := []) (by simp) (fun k hk => by cases hk) (fun so hso => by cases hso)
theorem RepS.back {ks : List Nat} {S2 : Sto} (h : RepS K mg g S H) (hl : ∀ k ∈ ks, ∃ so, S[k]? = some so ∧ so ≠ .dead) (l : (apart g S H ks).le g') (h' : RepS K mg g' S' H')
    (hlen : S2.length = S.length) (hin : ∀ (j k : Nat), ks[j]? = some k → S2[k]? = S'[j]?) (hout : ∀ i, i ∉ ks → S2[i]? = S[i]?) (hb : ∀ j so, j < ks.length → S'[j]? = some so → belowO 0 so = true) :
    RepS K mg (backG g g' S' H' ks.length) S2 H' ∧ g.le (backG g g' S' H' ks.length) := by
  have gle : g.le (backG g g' S' H' ks.length) := ⟨fun a o e => backFz_fz h' (l.fz a o e), fun _ _ e => e, rfl, rfl⟩
  have inK : ∀ {i : Nat}, i ∈ ks → ∃ j, ks[j]? = some i ∧ j < ks.length := fun {i} hi => by
    obtain ⟨j, hj, e⟩ := List.getElem_of_mem hi
    exact ⟨j, by rw [List.getElem?_eq_getElem hj, e], hj⟩
  have m' : ∀ {j k : Nat} {a : Addr}, ks[j]? = some k → g.m[k]? = some a → g'.m[j]? = some a := fun {j k a} e1 e2 => l.m j a (by rw [apart_m h hl e1]; exact e2)
  have st : ∀ {a : Addr}, Stash g S ks a → ∃ o, H a = some o ∧ H' a = some o ∧ g'.fz a = none ∧ ∀ (i : Nat) (so : SO), S'[i]? = some so → so ≠ .dead → g'.m[i]? ≠ some a := fun {a} hs => by
    obtain ⟨i, so, i1, i2, i3, i4⟩ := hs
    obtain ⟨o, q⟩ := (h.ob i so a i2 i4).there i3
    have e : g'.rs a = some o := by
      rw [l.rs]
      show apartRs g S H ks a = some o
      unfold apartRs
      rw [if_pos ⟨i, so, i1, i2, i3, i4⟩]; exact q
    obtain ⟨r1, r2, r3⟩ := h'.rs a o e
    exact ⟨o, q, r1, r2, r3⟩
  have live0 : ∀ {i : Nat} {so : SO}, S2[i]? = some so → so ≠ .dead → ∃ s0, S[i]? = some s0 ∧ s0 ≠ .dead := fun {i so} e n => by
    by_cases hi : i ∈ ks
    · exact hl i hi
    · rw [hout i hi] at e; exact ⟨so, e, n⟩
  refine ⟨⟨fun a o e => ?_, by rw [hlen]; exact h.len, fun i so a e1 e2 => ?_, fun i so a e1 n e2 => ?_, fun i1 i2 s1 s2 a e1 n1 e2 n2 e3 e4 => ?_, fun a o e => ?_, ?_⟩, gle⟩
  · have e' : backFz g' S' H' ks.length a = some o := e
    unfold backFz at e'
    split at e'
    · exact e'
    · exact h'.fz a o e'
  · by_cases hi : i ∈ ks
    · obtain ⟨j, q1, q2⟩ := inK hi
      rw [hin j i q1] at e1
      have e3 := m' q1 e2
      exact (h'.ob j so a e1 e3).cut (g := g') (g' := backG g g' S' H' ks.length) (n := 0) (fun _ _ e => backFz_fz h' e) (fun i a hi _ => absurd hi (Nat.not_lt_zero _)) (hb j so q2 e1)
    · rw [hout i hi] at e1
      rcases dead_or so with z | z
      · subst z; trivial
      · obtain ⟨o, q1, q2, q3, q4⟩ := st ⟨i, so, hi, e1, z, e2⟩
        exact ((h.ob i so a e1 e2).heap (q2.trans q1.symm)).mono gle
  · show backFz g' S' H' ks.length a = none
    unfold backFz
    by_cases hi : i ∈ ks
    · obtain ⟨j, q1, q2⟩ := inK hi
      rw [hin j i q1] at e1
      have e3 := m' q1 e2
      rw [if_neg]
      · exact h'.nofz j so a e1 n e3
      · rintro ⟨j2, xs, p1, p2, p3⟩
        have := h'.inj j j2 so _ a e1 n p2 (by intro z; cases z) e3 p3
        omega
    · rw [hout i hi] at e1
      obtain ⟨o, q1, q2, q3, q4⟩ := st ⟨i, so, hi, e1, n, e2⟩
      rw [if_neg]
      · exact q3
      · rintro ⟨j2, xs, p1, p2, p3⟩
        exact q4 j2 _ p2 (by intro z; cases z) p3
  · obtain ⟨t1, p1, p2⟩ := live0 e1 n1
    obtain ⟨t2, q1, q2⟩ := live0 e2 n2
    exact h.inj i1 i2 t1 t2 a p1 p2 q1 q2 e3 e4
  · have e' : g.rs a = some o := e
    obtain ⟨r1, r2, r3⟩ := h.rs a o e'
    have e2 : g'.rs a = some o := by
      rw [l.rs]
      show apartRs g S H ks a = some o
      unfold apartRs
      rw [if_neg]
      · exact e'
      · rintro ⟨i, so, i1, i2, i3, i4⟩
        exact r3 i so i2 i3 i4
    obtain ⟨k1, k2, k3⟩ := h'.rs a o e2
    refine ⟨k1, ?_, fun i so f1 f2 f3 => ?_⟩
    · show backFz g' S' H' ks.length a = none
      unfold backFz
      rw [if_neg]
      · exact k2
      · rintro ⟨j2, xs, p1, p2, p3⟩
        exact k3 j2 _ p2 (by intro z; cases z) p3
    · obtain ⟨s0, p1, p2⟩ := live0 f1 f2
      exact r3 i s0 p1 p2 f3
  · have e : g'.tb = g.tb := l.tb
    show ∀ p ∈ g.tb, LamX.TabS H' p.1 p.2
    rw [← e]; exact h'.tb
theorem RepVs.mapO {n : Nat} {F : PV → Option PV} : ∀ (xs ys : List PV) (vs : List V), MX.mapO F xs = some ys → (∀ x y v, F x = some y → RepV K g' x v → RepV K (backG g g' S' H' n) y v) → RepVs K g' xs vs → RepVs K (backG g g' S' H' n) ys vs
  | [], ys, vs, e, _, r => by cases e; exact r
  | x :: xs, ys, vs, e, hF, r => by
    obtain ⟨v, t, e1, h1, h2⟩ := r
    simp only [MX.mapO] at e
    split at e
    · cases e
    · rename_i z q
      simp only [Option.map_eq_some_iff] at e
      obtain ⟨zs, e2, e3⟩ := e
      subst e3
      exact ⟨v, t, e1, hF x z v q h1, RepVs.mapO xs zs t e2 hF h2⟩
theorem RepV.thawN {n : Nat} (h' : RepS K mg g' S' H') : ∀ (f : Nat) (x y : PV) (v : V), MX.thawN S' n f x = some y → RepV K g' x v → RepV K (backG g g' S' H' n) y v
  | 0, _, _, _, e, _ => by cases e
  | f + 1, .non, y, v, e, r => by cases e; exact r
  | f + 1, .bl _, y, v, e, r => by cases e; exact r
  | f + 1, .int _, y, v, e, r => by cases e; exact r
  | f + 1, .str _, y, v, e, r => by cases e; exact r
  | f + 1, .tup xs, y, v, e, r => by
    obtain ⟨a, vs, e1, h1, h2⟩ := r
    simp only [MX.thawN, Option.map_eq_some_iff] at e
    obtain ⟨ys, e2, e3⟩ := e
    subst e3
    exact ⟨a, vs, e1, SqT.mono (fun _ _ e => backFz_fz h' e) h1, RepVs.mapO xs ys vs e2 (RepV.thawN h' f) h2⟩
  | f + 1, .lst xs, y, v, e, r => by
    obtain ⟨a, vs, e1, h1, h2⟩ := r
    simp only [MX.thawN, Option.map_eq_some_iff] at e
    obtain ⟨ys, e2, e3⟩ := e
    subst e3
    exact ⟨a, vs, e1, LsQ.mono (fun _ _ e => backFz_fz h' e) h1, RepVs.mapO xs ys vs e2 (RepV.thawN h' f) h2⟩
  | f + 1, .ref j, y, v, e, r => by
    obtain ⟨a, e1, h1⟩ := r
    simp only [MX.thawN] at e
    split at e
    · rename_i hj
      split at e
      · rename_i xs q
        simp only [Option.map_eq_some_iff] at e
        obtain ⟨ys, e2, e3⟩ := e
        subst e3
        obtain ⟨ws, q1, q2⟩ := h'.ob j _ a q h1
        refine ⟨a, ws, e1, .inl (.inl ?_), RepVs.mapO xs ys ws e2 (RepV.thawN h' f) q2⟩
        show backFz g' S' H' n a = _
        unfold backFz
        rw [if_pos ⟨j, xs, hj, q, h1⟩]; exact q1
      · cases e
    · cases e
theorem RepV.thaw {n : Nat} (h' : RepS K mg g' S' H') (f : Nat) (x y : PV) (v : V) (e : MX.thaw S' n f x = some y) (r : RepV K g' x v) : RepV K (backG g g' S' H' n) y v := by
  unfold MX.thaw at e
  split at e
  · rename_i hb
    cases e
    exact RepV.cut (g := g') (g' := backG g g' S' H' n) (n := 0) (fun _ _ e => backFz_fz h' e) (fun i a hi _ => absurd hi (Nat.not_lt_zero _)) x v hb r
  · exact RepV.thawN h' f x y v e r
theorem RepF.thaw {n f : Nat} (h' : RepS K mg g' S' H') : ∀ {xs ys : List (Str × PV)} {ws : List (Str × V)}, thawF S' n f xs = some ys → RepF K g' xs ws → RepF K (backG g g' S' H' n) ys ws
  | [], ys, ws, e, r => by cases e; cases r; exact .nil
  | (k, x) :: xs, ys, ws, e, r => by
    cases r with
    | cons r1 r2 =>
      simp only [thawF] at e
      split at e
      · cases e
      · rename_i z q
        simp only [Option.map_eq_some_iff] at e
        obtain ⟨zs, e2, e3⟩ := e
        subst e3
        exact .cons ⟨r1.1, RepV.thaw h' f x z _ q r1.2⟩ (RepF.thaw h' e2 r2)
end
end MX

end

section
/-! Defs as functions of data; a block's own things; a list that is let go. -/
namespace MX
open PySem PySem.Spec PyProof.Rows L2

def thawE (S : Sto) (n : Nat) (x : EX) : Option EX := (thawF S n 20 x.fs).map (EX.mk x.cls)
def pureF (f : Fs) : List PV → RR PV := fun as => if belows 0 as = true then (match f as [] with
  | .ok v S' => match thaw S' 0 20 v with
    | some y => .ok y
    | none => .stuck
  | .exc x S' => match thawE S' 0 x with
    | some y => .exc y
    | none => .stuck
  | .stuck => .stuck) else .stuck
def liftP (f : List PV → RR PV) : Fs := fun as S => match f as with
  | .ok v => .ok v S
  | .exc x => .exc x S
  | .stuck => .stuck
/-- the first argument is a thing of the store -/
def objF (f : Fs) : SO → List PV → RR (PV × SO) := fun so as => if belows 0 as = true ∧ belowO 0 so = true then (match f (.ref 0 :: as) [so] with
  | .ok v S' => match thaw S' 1 20 v with
    | some y => match S'[0]? with
      | some so' => if belowO 0 so' = true then .ok (y, so') else .stuck
      | none => .stuck
    | none => .stuck
  | _ => .stuck) else .stuck
def liftO (f : SO → List PV → RR (PV × SO)) : Fs := fun as S => match as with
  | .ref k :: rest => match S[k]? with
    | some .dead => .stuck
    | some so => match f so rest with
      | .ok r => .ok r.1 (S.set k r.2)
      | _ => .stuck
    | none => .stuck
  | _ => .stuck
/-- a dict is made -/
def makeF (f : Fs) : List PV → RR SO := fun as => if belows 0 as = true then (match f as [] with
  | .ok (.ref j) S' => match S'[j]? with
    | some (.dct kvs) => if belowO 0 (.dct kvs) = true then .ok (.dct kvs) else .stuck
    | some (.lst xs) => if belowO 0 (.lst xs) = true then .ok (.lst xs) else .stuck
    | _ => .stuck
  | _ => .stuck) else .stuck
def liftK (f : List PV → RR SO) : Fs := fun as S => match f as with
  | .ok so => .ok (.ref S.length) (S ++ [so])
  | _ => .stuck
section
variable {P : Program} {w : World} {K : PySem.W.Frag} {mg : Str → Option Value} {base : Heap} {k : Nat} {f : Addr} {fd : FuncData} {ps : List Str} {sem : Fs}
theorem repX_thaw {mg : MP} {g g' : Gh} {S' : Sto} {H' : Hp} {n : Nat} {x y : EX} {cls : Value} {d : Option Addr} (h' : RepS K mg g' S' H') (e : thawE S' n x = some y) (r : RepX K mg g' x cls d H') : RepX K mg (backG g g' S' H' n) y cls d H' := by
  unfold thawE at e
  simp only [Option.map_eq_some_iff] at e
  obtain ⟨fs, e1, e2⟩ := e
  subst e2
  obtain ⟨r1, dx, ws, r2, r3, r4⟩ := r
  exact ⟨r1, dx, ws, r2, r3, RepF.thaw h' e1 r4⟩
theorem RepVs.apart {g : Gh} {S : Sto} {H : Hp} {ks : List Nat} {as : List PV} {vs : List V} (b : belows 0 as = true) (r : RepVs K g as vs) : RepVs K (MX.apart g S H ks) as vs :=
  RepVs.cut' (g := g) (g' := MX.apart g S H ks) (n := 0) (fun _ _ e => e) (fun i a hi _ => absurd hi (Nat.not_lt_zero _)) as vs b r
theorem FnG.pure (F : FnG P w K mg base k f fd ps sem) : FnG P w K mg base k f fd ps (liftP (pureF sem)) := ⟨fun A outer s H args us vs Q E hr hg he hb hv ⟨g, S, as, h1, h2, h3, h4⟩ => by
  unfold liftP pureF at h4
  by_cases hbl : belows 0 as = true
  · rw [if_pos hbl] at h4
    have hA : RepS K ⟨mg, P, w⟩ (MX.apart g S H []) [] H := h1.toArapart
    refine F.run A outer s H args us vs Q E hr hg he hb hv ⟨MX.apart g S H [], [], as, hA, h2.apart hbl, h3, ?_⟩
    cases ho : sem as [] with
    | stuck => rw [ho] at h4; exact h4
    | ok v S' =>
      rw [ho] at h4
      simp only at h4
      cases ht : thaw S' 0 20 v with
      | none => rw [ht] at h4; exact h4.elim
      | some y =>
        rw [ht] at h4
        intro u H' g' l q r
        obtain ⟨b1, b2⟩ := h1.back (ks := []) (S2 := S) (fun k hk => by cases hk) l q rfl (fun j k e => by simp at e) (fun _ _ => rfl) (fun j so hj => absurd hj (Nat.not_lt_zero _))
        exact h4 u H' _ b2 b1 (RepV.thaw q 20 v y u ht r)
    | exc x S' =>
      rw [ho] at h4
      simp only at h4
      cases ht : thawE S' 0 x with
      | none => rw [ht] at h4; exact h4.elim
      | some y =>
        rw [ht] at h4
        intro cls d H' g' l q r
        obtain ⟨b1, b2⟩ := h1.back (ks := []) (S2 := S) (fun k hk => by cases hk) l q rfl (fun j k e => by simp at e) (fun _ _ => rfl) (fun j so hj => absurd hj (Nat.not_lt_zero _))
        exact h4 cls d H' _ b2 b1 (repX_thaw q ht r)
  · rw [if_neg hbl] at h4
    exact h4.elim⟩
theorem FnG.obj (F : FnG P w K mg base k f fd ps sem) : FnG P w K mg base k f fd ps (liftO (objF sem)) := ⟨fun A outer s H args us vs Q E hr hg he hb hv ⟨g, S, as, h1, h2, h3, h4⟩ => by
  have h5 : ∃ (j : Nat) (rest : List PV) (so : SO), as = .ref j :: rest ∧ S[j]? = some so ∧ so ≠ .dead ∧ (match (match objF sem so rest with
      | .ok r => Out.ok r.1 (S.set j r.2)
      | _ => .stuck : Out PV) with
    | .ok a S' => ∀ v H' g', g.le g' → RepS K ⟨mg, P, w⟩ g' S' H' → RepV K g' a v → Q v H'
    | .exc x S' => ∀ cls d H' g', g.le g' → RepS K ⟨mg, P, w⟩ g' S' H' → RepX K ⟨mg, P, w⟩ g' x cls d H' → E cls d H'
    | .stuck => False) := by
    cases as with
    | nil => exact h4.elim
    | cons a rest =>
      cases a with
      | ref j =>
        simp only [liftO] at h4
        cases hS : S[j]? with
        | none => rw [hS] at h4; exact h4.elim
        | some so =>
          rw [hS] at h4
          cases so with
          | dead => exact h4.elim
          | _ => exact ⟨j, rest, _, rfl, hS, (by intro z; cases z), h4⟩
      | _ => exact h4.elim
  clear h4
  obtain ⟨j, rest, so, rfl, hS, hnd, h4⟩ := h5
  unfold objF at h4
  by_cases hbl : belows 0 rest = true ∧ belowO 0 so = true
  · rw [if_pos hbl] at h4
    have hl : ∀ k ∈ [j], ∃ so, S[k]? = some so ∧ so ≠ .dead := fun k hk => by
      rw [List.mem_singleton] at hk; subst hk
      exact ⟨so, hS, hnd⟩
    have hp : pickS S [j] = [so] := by simp [pickS, hS]
    have hA : RepS K ⟨mg, P, w⟩ (MX.apart g S H [j]) [so] H := by
      have := h1.toApart (ks := [j]) (by simp) hl (by rw [hp]; intro so' h; rw [List.mem_singleton] at h; subst h; exact hbl.2)
      rw [hp] at this; exact this
    obtain ⟨v0, vr, rfl, r1, r2⟩ := h2
    have rA : RepVs K (MX.apart g S H [j]) (.ref 0 :: rest) (v0 :: vr) := by
      obtain ⟨a, e1, e2⟩ := r1
      exact .cons ⟨a, e1, (apart_m h1 hl (j := 0) rfl).trans e2⟩ (r2.apart hbl.1)
    refine F.run A outer s H args us (v0 :: vr) Q E hr hg he hb hv ⟨MX.apart g S H [j], [so], .ref 0 :: rest, hA, rA, h3, ?_⟩
    cases ho : sem (.ref 0 :: rest) [so] with
    | stuck => rw [ho] at h4; exact h4
    | exc x S' => rw [ho] at h4; exact h4.elim
    | ok v S' =>
      rw [ho] at h4
      simp only at h4
      cases ht : thaw S' 1 20 v with
      | none => rw [ht] at h4; exact h4.elim
      | some y =>
        rw [ht] at h4
        simp only at h4
        cases hs : S'[0]? with
        | none => rw [hs] at h4; exact h4.elim
        | some so' =>
          rw [hs] at h4
          simp only at h4
          by_cases hb' : belowO 0 so' = true
          · rw [if_pos hb'] at h4
            intro u H' g' l q r
            obtain ⟨b1, b2⟩ := h1.back (ks := [j]) (S2 := S.set j so') hl l q (by simp) (fun i k e => by
              cases i with
              | zero =>
                have e' : j = k := by simpa using e
                subst e'
                rw [hs, List.getElem?_set_self (List.getElem?_eq_some_iff.mp hS).1]
              | succ i => simp at e) (fun i hi => List.getElem?_set_ne (fun z => hi (by rw [z]; simp))) (fun i s1 hi e => by
                have : i = 0 := by simp at hi; exact hi
                subst this
                rw [hs] at e; cases e; exact hb')
            exact h4 u H' _ b2 b1 (RepV.thaw q 20 v y u ht r)
          · rw [if_neg hb'] at h4; exact h4.elim
  · rw [if_neg hbl] at h4; exact h4.elim⟩
/-- a thing that the call has made, handed to the store -/
theorem RepS.adopt {mg : MP} {g : Gh} {S : Sto} {H : Hp} {p : Addr} {so : SO} (h : RepS K mg g S H) (r : RepO K mg g H so p) (n : so ≠ .dead) (hf : g.fz p = none) (hrs : g.rs p = none) (hm : ∀ (i : Nat) (s1 : SO), S[i]? = some s1 → s1 ≠ .dead → g.m[i]? ≠ some p) :
    RepS K mg ⟨g.fz, g.m ++ [p], g.rs, g.tb⟩ (S ++ [so]) H ∧ g.le ⟨g.fz, g.m ++ [p], g.rs, g.tb⟩ := by
  have l : g.le ⟨g.fz, g.m ++ [p], g.rs, g.tb⟩ := ⟨fun _ _ e => e, fun i a e => by
    show (g.m ++ [p])[i]? = some a
    rw [List.getElem?_append_left (List.getElem?_eq_some_iff.mp e).1]; exact e, rfl, rfl⟩
  have cs : ∀ {i : Nat} {s1 : SO} {a : Addr}, (S ++ [so])[i]? = some s1 → (g.m ++ [p])[i]? = some a → (S[i]? = some s1 ∧ g.m[i]? = some a) ∨ (i = S.length ∧ s1 = so ∧ a = p) := fun {i s1 a} e1 e2 => by
    by_cases hi : i < S.length
    · rw [List.getElem?_append_left hi] at e1
      rw [List.getElem?_append_left (by rw [h.len]; exact hi)] at e2
      exact .inl ⟨e1, e2⟩
    · have hi2 : i = S.length := by
        have := (List.getElem?_eq_some_iff.mp e1).1
        rw [List.length_append, List.length_singleton] at this; omega
      subst hi2
      rw [List.getElem?_append_right (Nat.le_refl _)] at e1
      rw [List.getElem?_append_right (by rw [h.len]; exact Nat.le_refl _), h.len] at e2
      simp at e1 e2
      exact .inr ⟨rfl, e1.symm, e2.symm⟩
  refine ⟨⟨h.fz, by simp [h.len], fun i s1 a e1 e2 => ?_, fun i s1 a e1 n1 e2 => ?_, fun i j s1 s2 a e1 n1 e2 n2 e3 e4 => ?_, fun a o e => ?_, h.tb⟩, l⟩
  · rcases cs e1 e2 with ⟨q1, q2⟩ | ⟨_, rfl, rfl⟩
    · exact (h.ob i s1 a q1 q2).mono l
    · exact r.mono l
  · rcases cs e1 e2 with ⟨q1, q2⟩ | ⟨_, rfl, rfl⟩
    · exact h.nofz i s1 a q1 n1 q2
    · exact hf
  · rcases cs e1 e3 with ⟨q1, q2⟩ | ⟨i1, rfl, rfl⟩ <;> rcases cs e2 e4 with ⟨q3, q4⟩ | ⟨i2, rfl, p2⟩
    · exact h.inj i j s1 s2 a q1 n1 q3 n2 q2 q4
    · subst p2; exact absurd q2 (hm i s1 q1 n1)
    · exact absurd q4 (hm j s2 q3 n2)
    · rw [i1, i2]
  · obtain ⟨r1, r2, r3⟩ := h.rs a o e
    refine ⟨r1, r2, fun i s1 e1 n1 e2 => ?_⟩
    rcases cs e1 e2 with ⟨q1, q2⟩ | ⟨_, rfl, rfl⟩
    · exact r3 i s1 q1 n1 q2
    · have e' : g.rs a = some o := e
      rw [hrs] at e'; cases e'
theorem RepS.kill {mg : MP} {g : Gh} {S : Sto} {H : Hp} (h : RepS K mg g S H) (k : Nat) : RepS K mg g (S.set k .dead) H := by
  have cs : ∀ {i : Nat} {so : SO}, (S.set k .dead)[i]? = some so → so ≠ .dead → S[i]? = some so := fun {i so} q n => by
    by_cases hi : k = i
    · subst hi
      have hl : k < S.length := by
        have := (List.getElem?_eq_some_iff.mp q).1
        simpa using this
      rw [List.getElem?_set_self hl] at q
      exact absurd (Option.some.inj q).symm n
    · rwa [List.getElem?_set_ne hi] at q
  refine ⟨h.fz, by simp [h.len], fun i so a e1 e2 => ?_, fun i so a e1 n e2 => h.nofz i so a (cs e1 n) n e2, fun i j s1 s2 a e1 n1 e2 n2 e3 e4 => h.inj i j s1 s2 a (cs e1 n1) n1 (cs e2 n2) n2 e3 e4, fun a o q => ?_, h.tb⟩
  · rcases dead_or so with z | z
    · subst z; trivial
    · exact h.ob i so a (cs e1 z) e2
  · obtain ⟨r1, r2, r3⟩ := h.rs a o q
    exact ⟨r1, r2, fun i so e1 n e2 => r3 i so (cs e1 n) n e2⟩
theorem FnG.make (F : FnG P w K mg base k f fd ps sem) : FnG P w K mg base k f fd ps (liftK (makeF sem)) := ⟨fun A outer s H args us vs Q E hr hg he hb hv ⟨g, S, as, h1, h2, h3, h4⟩ => by
  unfold liftK makeF at h4
  by_cases hbl : belows 0 as = true
  · rw [if_pos hbl] at h4
    have hA : RepS K ⟨mg, P, w⟩ (MX.apart g S H []) [] H := h1.toArapart
    refine F.run A outer s H args us vs Q E hr hg he hb hv ⟨MX.apart g S H [], [], as, hA, h2.apart hbl, h3, ?_⟩
    cases ho : sem as [] with
    | stuck => rw [ho] at h4; exact h4
    | exc x S' => rw [ho] at h4; exact h4.elim
    | ok v S' =>
      rw [ho] at h4
      cases v with
      | ref j =>
        simp only at h4
        cases hs : S'[j]? with
        | none => rw [hs] at h4; exact h4.elim
        | some so =>
          rw [hs] at h4
          cases so with
          | dct kvs =>
            simp only at h4
            by_cases hb' : belowO 0 (.dct kvs) = true
            · rw [if_pos hb'] at h4
              intro u H' g' l q r
              obtain ⟨b1, b2⟩ := h1.back (ks := []) (S2 := S) (fun k hk => by cases hk) l q rfl (fun j k e => by simp at e) (fun _ _ => rfl) (fun j so hj => absurd hj (Nat.not_lt_zero _))
              obtain ⟨p, rfl, em⟩ := r
              have ro := q.ob j _ p hs em
              have n0 : SO.dct kvs ≠ .dead := by intro z; cases z
              have st : ∀ {o : HO}, (MX.apart g S H []).rs p = some o → False := fun {o} e => by
                rw [← l.rs] at e
                exact (q.rs p o e).2.2 j _ hs n0 em
              have a1 : (backG g g' S' H' 0).fz p = none := by
                show backFz g' S' H' 0 p = none
                unfold backFz
                rw [if_neg]
                · exact q.nofz j _ p hs n0 em
                · rintro ⟨i, xs, _, p2, p3⟩
                  have := q.inj i j _ _ p p2 (by intro z; cases z) hs n0 p3 em
                  subst this
                  rw [hs] at p2; cases p2
              have a2 : ∀ (i : Nat) (s1 : SO), S[i]? = some s1 → s1 ≠ .dead → g.m[i]? ≠ some p := fun i s1 e1 n1 e2 => by
                obtain ⟨o, e3⟩ := (h1.ob i s1 p e1 e2).there n1
                refine st (o := o) ?_
                show apartRs g S H [] p = some o
                unfold apartRs
                rw [if_pos ⟨i, s1, by simp, e1, n1, e2⟩]; exact e3
              have a3 : g.rs p = none := by
                cases e : g.rs p with
                | none => rfl
                | some o =>
                  refine (st (o := o) ?_).elim
                  show apartRs g S H [] p = some o
                  unfold apartRs
                  rw [if_neg]
                  · exact e
                  · rintro ⟨i, s1, _, i2, i3, i4⟩
                    exact a2 i s1 i2 i3 i4
              have ro' : RepO K ⟨mg, P, w⟩ (backG g g' S' H' 0) H' (.dct kvs) p := ro.cut (g := g') (g' := backG g g' S' H' 0) (n := 0) (fun _ _ e => backFz_fz q e) (fun i a hi _ => absurd hi (Nat.not_lt_zero _)) hb'
              obtain ⟨c1, c2⟩ := RepS.adopt b1 ro' n0 a1 a3 a2
              refine h4 (.ref p) H' _ (b2.trans c2) c1 ⟨p, rfl, ?_⟩
              show (g.m ++ [p])[S.length]? = some p
              rw [← h1.len]; simp
            · rw [if_neg hb'] at h4; exact h4.elim
          | lst xs =>
            simp only at h4
            by_cases hb' : belowO 0 (.lst xs) = true
            · rw [if_pos hb'] at h4
              intro u H' g' l q r
              have q' := q.kill j
              obtain ⟨b1, b2⟩ := h1.back (ks := []) (S2 := S) (fun k hk => by cases hk) l q' rfl (fun j k e => by simp at e) (fun _ _ => rfl) (fun j so hj => absurd hj (Nat.not_lt_zero _))
              obtain ⟨p, rfl, em⟩ := r
              have ro := q.ob j _ p hs em
              have n0 : SO.lst xs ≠ .dead := by intro z; cases z
              have st : ∀ {o : HO}, (MX.apart g S H []).rs p = some o → False := fun {o} e => by
                rw [← l.rs] at e
                exact (q.rs p o e).2.2 j _ hs n0 em
              have a1 : (backG g g' (S'.set j .dead) H' 0).fz p = none := by
                show backFz g' (S'.set j .dead) H' 0 p = none
                unfold backFz
                rw [if_neg]
                · exact q.nofz j _ p hs n0 em
                · rintro ⟨i, ys, _, p2, p3⟩
                  by_cases hij : j = i
                  · subst hij
                    rw [List.getElem?_set_self (List.getElem?_eq_some_iff.mp hs).1] at p2
                    cases p2
                  · rw [List.getElem?_set_ne hij] at p2
                    exact hij (q.inj i j _ _ p p2 (by intro z; cases z) hs n0 p3 em).symm
              have a2 : ∀ (i : Nat) (s1 : SO), S[i]? = some s1 → s1 ≠ .dead → g.m[i]? ≠ some p := fun i s1 e1 n1 e2 => by
                obtain ⟨o, e3⟩ := (h1.ob i s1 p e1 e2).there n1
                refine st (o := o) ?_
                show apartRs g S H [] p = some o
                unfold apartRs
                rw [if_pos ⟨i, s1, by simp, e1, n1, e2⟩]; exact e3
              have a3 : g.rs p = none := by
                cases e : g.rs p with
                | none => rfl
                | some o =>
                  refine (st (o := o) ?_).elim
                  show apartRs g S H [] p = some o
                  unfold apartRs
                  rw [if_neg]
                  · exact e
                  · rintro ⟨i, s1, _, i2, i3, i4⟩
                    exact a2 i s1 i2 i3 i4
              have ro' : RepO K ⟨mg, P, w⟩ (backG g g' (S'.set j .dead) H' 0) H' (.lst xs) p := ro.cut (g := g') (g' := backG g g' (S'.set j .dead) H' 0) (n := 0) (fun _ _ e => backFz_fz q' e) (fun i a hi _ => absurd hi (Nat.not_lt_zero _)) hb'
              obtain ⟨c1, c2⟩ := RepS.adopt b1 ro' n0 a1 a3 a2
              refine h4 (.ref p) H' _ (b2.trans c2) c1 ⟨p, rfl, ?_⟩
              show (g.m ++ [p])[S.length]? = some p
              rw [← h1.len]; simp
            · rw [if_neg hb'] at h4; exact h4.elim
          | _ => exact h4.elim
      | _ => exact h4.elim
  · rw [if_neg hbl] at h4
    exact h4.elim⟩
end
end MX

end

section
/-! A block's own things; a list that is let go. -/
namespace MX
open PySem PySem.Spec PyProof.Rows L2

section
variable {K : PySem.W.Frag} {mg : MP} {g g' : Gh} {S : Sto} {H : Hp} {sp : Sl} {σ : L2.St}
theorem RepE.forget (h : RepE K g sp σ) (vs : List Nat) : RepE K g (wipeP sp vs) σ := ⟨by rw [wipeP_length]; exact h.len, fun i x e => h.get i x (wipeP_some e).1⟩
/-- a list of the store, from now on as it is -/
theorem RepS.freezeAt {k : Nat} {xs : List PV} {p : Addr} {ws : List V} (h : RepS K mg g S H) (e : S[k]? = some (.lst xs)) (em : g.m[k]? = some p) (eh : H p = some (.lst ws)) :
    RepS K mg ⟨upd g.fz p (.lst ws), g.m, g.rs, g.tb⟩ (S.set k .dead) H ∧ g.le ⟨upd g.fz p (.lst ws), g.m, g.rs, g.tb⟩ := by
  have n0 : SO.lst xs ≠ .dead := by intro z; cases z
  have pf := h.nofz k _ p e n0 em
  have l : g.le ⟨upd g.fz p (.lst ws), g.m, g.rs, g.tb⟩ := ⟨fun a o q => by
    show upd g.fz p (.lst ws) a = some o
    rw [upd_ne (fun z => by subst z; rw [pf] at q; cases q)]; exact q, fun _ _ q => q, rfl, rfl⟩
  have cs : ∀ {i : Nat} {so : SO}, (S.set k .dead)[i]? = some so → so ≠ .dead → i ≠ k ∧ S[i]? = some so := fun {i so} q n => by
    by_cases hi : k = i
    · subst hi
      rw [List.getElem?_set_self (List.getElem?_eq_some_iff.mp e).1] at q
      exact absurd (Option.some.inj q).symm n
    · rw [List.getElem?_set_ne hi] at q
      exact ⟨fun z => hi z.symm, q⟩
  refine ⟨⟨fun a o q => ?_, by simp [h.len], fun i so a e1 e2 => ?_, fun i so a e1 n e2 => ?_, fun i j s1 s2 a e1 n1 e2 n2 e3 e4 => h.inj i j s1 s2 a (cs e1 n1).2 n1 (cs e2 n2).2 n2 e3 e4, fun a o q => ?_, h.tb⟩, l⟩
  · have q' : upd g.fz p (.lst ws) a = some o := q
    by_cases ha : a = p
    · subst ha; rw [upd_same] at q'; cases q'; exact eh
    · rw [upd_ne ha] at q'; exact h.fz a o q'
  · rcases dead_or so with z | z
    · subst z; trivial
    · exact (h.ob i so a (cs e1 z).2 e2).mono l
  · show upd g.fz p (.lst ws) a = none
    obtain ⟨c1, c2⟩ := cs e1 n
    rw [upd_ne (fun z => by subst z; exact c1 (h.inj i k so _ a c2 n e n0 e2 em))]
    exact h.nofz i so a c2 n e2
  · obtain ⟨r1, r2, r3⟩ := h.rs a o q
    refine ⟨r1, ?_, fun i so e1 n e2 => r3 i so (cs e1 n).2 n e2⟩
    show upd g.fz p (.lst ws) a = none
    rw [upd_ne (fun z => by subst z; exact r3 k _ e n0 em)]; exact r2
end
/-- slots forgotten ahead of a statement -/
def ssWp (vs : List Nat) (t : Ss) : Ss := fun sp S => t (wipeP sp vs) S
def slB (n : Nat) (sp : Sl) : Bool := sp.all fun o => match o with
  | some x => below n x
  | none => true
def scopeP (n : Nat) (vs : List Nat) (sp : Sl) (S : Sto) : Option (Sl × Sto) := if slB n (wipeP sp vs) = true ∧ n ≤ S.length ∧ (S.take n).all (belowO n) = true then some (wipeP sp vs, S.take n) else none
/-- behind a block its own slots and things are forgotten -/
def ssLoc (vs : List Nat) (t : Ss) : Ss := fun sp S => match t sp S with
  | .nx sp' S' => match scopeP S.length vs sp' S' with
    | some r => .nx r.1 r.2
    | none => .stuck
  | .ct sp' S' => match scopeP S.length vs sp' S' with
    | some r => .ct r.1 r.2
    | none => .stuck
  | .bk sp' S' => match scopeP S.length vs sp' S' with
    | some r => .bk r.1 r.2
    | none => .stuck
  | o => o
section
variable {K : PySem.W.Frag} {mg : MP} {g g' : Gh} {S S' : Sto} {H H' : Hp} {sp : Sl} {σ : L2.St}
theorem scope_rep {vs : List Nat} {r : Sl × Sto} (h : RepS K mg g S H) (l : g.le g') (h' : RepS K mg g' S' H') (e' : RepE K g' sp σ) (e : scopeP S.length vs sp S' = some r) :
    ∃ g'', g.le g'' ∧ RepS K mg g'' r.2 H' ∧ RepE K g'' r.1 σ := by
  unfold scopeP at e
  split at e
  · rename_i hc
    cases e
    obtain ⟨c1, c2, c3⟩ := hc
    refine ⟨⟨g'.fz, g'.m.take S.length, g'.rs, g'.tb⟩, ⟨l.fz, fun i a q => lt_take (l.m i a q) ?_, l.rs, l.tb⟩, h'.forget S.length (List.all_eq_true.mp c3), ?_⟩
    · have := (List.getElem?_eq_some_iff.mp q).1
      rw [h.len] at this; exact this
    · have f := e'.forget vs
      refine ⟨f.len, fun i x q => ?_⟩
      obtain ⟨v, q1, q2⟩ := f.get i x q
      have b := List.all_eq_true.mp c1 _ (List.mem_of_getElem? q)
      exact ⟨v, q1, RepV.cut (g := g') (g' := ⟨g'.fz, g'.m.take S.length, g'.rs, g'.tb⟩) (n := S.length) (fun _ _ e => e) (fun i a hi e => lt_take e hi) _ _ b q2⟩
  · cases e
end
section
variable {X : Cx} {st : Stmt} {body : List Stmt} {t : Ss}
theorem ss_wp (vs : List Nat) (h : PS X st (rdS X t)) : PS X st (rdS X (ssWp vs t)) := h.imp fun D σ H ⟨g, sp, S, hS, hE, p⟩ => ⟨g, wipeP sp vs, S, hS, hE.forget vs, p⟩
theorem ss_loc (vs : List Nat) (h : PSs X body (rdS X t)) : PSs X body (rdS X (ssLoc vs t)) := h.imp fun D σ H ⟨g, sp, S, hS, hE, p⟩ => by
  refine ⟨g, sp, S, hS, hE, ?_⟩
  unfold ssLoc at p
  cases ho : t sp S with
  | nx sp' S' =>
    rw [ho] at p
    simp only at p
    cases hc : scopeP S.length vs sp' S' with
    | none => rw [hc] at p; exact p.elim
    | some r =>
      rw [hc] at p
      intro σ' H' g' l q1 q2
      obtain ⟨g2, l2, r1, r2⟩ := scope_rep hS l q1 q2 hc
      exact p σ' H' g2 l2 r1 r2
  | ct sp' S' =>
    rw [ho] at p
    simp only at p
    cases hc : scopeP S.length vs sp' S' with
    | none => rw [hc] at p; exact p.elim
    | some r =>
      rw [hc] at p
      intro σ' H' g' l q1 q2
      obtain ⟨g2, l2, r1, r2⟩ := scope_rep hS l q1 q2 hc
      exact p σ' H' g2 l2 r1 r2
  | bk sp' S' =>
    rw [ho] at p
    simp only at p
    cases hc : scopeP S.length vs sp' S' with
    | none => rw [hc] at p; exact p.elim
    | some r =>
      rw [hc] at p
      intro σ' H' g' l q1 q2
      obtain ⟨g2, l2, r1, r2⟩ := scope_rep hS l q1 q2 hc
      exact p σ' H' g2 l2 r1 r2
  | rt v S' => rw [ho] at p; exact p
  | exc x sp' S' => rw [ho] at p; exact p
  | stuck => rw [ho] at p; exact p
/-- a local list read for the last time -/
def sxMove (i : Nat) : Sx := fun sp S => match sp[i]? with
  | some (some (.ref k)) => match S[k]? with
    | some (.lst xs) => if belows 0 xs = true then .ok (.lst xs) (S.set k .dead) else .stuck
    | _ => .stuck
  | _ => .stuck
theorem se_move (i : Nat) {x : Str} {pos : Pos} (hN : X.N[i]? = some x := by rfl) (hv : Vis X.env.scope x := by first | exact Or.inl rfl | exact Or.inr (Or.inl rfl) | exact Or.inr (Or.inr rfl)) (hd : (x == ("__debug__" : Str)) = false := by decide)
    (hcd : (x == ("__classdict__" : Str)) = false := by decide) : PE X (.Name x pos) (rdE X (sxMove i)) := by
  refine (pe_var hN hv hd hcd).imp fun σ H Q ⟨g, sp, S, hS, hE, h⟩ => ?_
  unfold sxMove at h
  split at h
  · rename_i k e
    split at h
    · rename_i xs e2
      split at h
      · rename_i hb
        obtain ⟨u, e1, p, rfl, em⟩ := hE.get i _ e
        obtain ⟨ws, eh, rw_⟩ := hS.ob k _ p e2 em
        obtain ⟨f1, f2⟩ := hS.freezeAt e2 em eh
        refine ⟨.ref p, e1, h (.ref p) H _ f2 f1 ⟨p, ws, rfl, .inl (.inl upd_same), RepVs.mono f2 _ _ rw_⟩⟩
      · exact h.elim
    · exact h.elim
  · exact h.elim
/-- slots forgotten behind a block -/
def ssEnd (vs : List Nat) (t : Ss) : Ss := fun sp S => match t sp S with
  | .nx sp' S' => .nx (wipeP sp' vs) S'
  | .ct sp' S' => .ct (wipeP sp' vs) S'
  | .bk sp' S' => .bk (wipeP sp' vs) S'
  | o => o
theorem ss_end (vs : List Nat) (h : PSs X body (rdS X t)) : PSs X body (rdS X (ssEnd vs t)) := h.imp fun D σ H ⟨g, sp, S, hS, hE, p⟩ => by
  refine ⟨g, sp, S, hS, hE, ?_⟩
  unfold ssEnd at p
  cases ho : t sp S with
  | nx sp' S' => rw [ho] at p; exact fun σ' H' g' l q1 q2 => p σ' H' g' l q1 (q2.forget vs)
  | ct sp' S' => rw [ho] at p; exact fun σ' H' g' l q1 q2 => p σ' H' g' l q1 (q2.forget vs)
  | bk sp' S' => rw [ho] at p; exact fun σ' H' g' l q1 q2 => p σ' H' g' l q1 (q2.forget vs)
  | rt v S' => rw [ho] at p; exact p
  | exc x sp' S' => rw [ho] at p; exact p
  | stuck => rw [ho] at p; exact p
/-- a local list that nobody changes from now on -/
def ssFrz (i : Nat) (t : Ss) : Ss := fun sp S => match sxMove i sp S with
  | .ok v S1 => t (sp.set i (some v)) S1
  | _ => .stuck
theorem ss_frz (i : Nat) (h : PS X st (rdS X t)) : PS X st (rdS X (ssFrz i t)) := h.imp fun D σ H ⟨g, sp, S, hS, hE, p⟩ => by
  unfold ssFrz sxMove at p
  split at p
  · rename_i v S1 e0
    split at e0
    · rename_i k e
      split at e0
      · rename_i xs e2
        split at e0
        · rename_i hb
          cases e0
          obtain ⟨u, e1, q, rfl, em⟩ := hE.get i _ e
          obtain ⟨ws, eh, rw_⟩ := hS.ob k _ q e2 em
          obtain ⟨f1, f2⟩ := hS.freezeAt e2 em eh
          refine ⟨_, sp.set i (some (.lst xs)), _, f1, ?_, ?_⟩
          · refine ⟨by simp [hE.len], fun j x q' => ?_⟩
            by_cases hj : i = j
            · subst hj
              rw [List.getElem?_set_self (List.getElem?_eq_some_iff.mp e).1] at q'
              cases q'
              exact ⟨.ref q, e1, q, ws, rfl, .inl (.inl upd_same), RepVs.mono f2 _ _ rw_⟩
            · rw [List.getElem?_set_ne hj] at q'
              exact (hE.mono f2).get j x q'
          · cases ho : t (sp.set i (some (.lst xs))) (S.set k .dead) with
            | nx sp' S' => rw [ho] at p; exact fun σ' H' g' l => p σ' H' g' (f2.trans l)
            | ct sp' S' => rw [ho] at p; exact fun σ' H' g' l => p σ' H' g' (f2.trans l)
            | bk sp' S' => rw [ho] at p; exact fun σ' H' g' l => p σ' H' g' (f2.trans l)
            | rt v S' => rw [ho] at p; exact fun σ' H' g' l => p σ' H' g' (f2.trans l)
            | exc x sp' S' => rw [ho] at p; exact ExcT.mono (show ExcT X g sp' x S' from p) f2
            | stuck => rw [ho] at p; exact p
        · cases e0
      · cases e0
    · cases e0
  · exact p.elim
end
end MX

end

section
/-! Plain mathematics of the readings: small data, loops. -/
namespace MX
open PySem PySem.Spec PyProof.Rows L2

/-! ### small data -/
mutual
def sm : PV → Bool
  | .non => true
  | .bl _ => true
  | .int i => decide (i.natAbs < 10 ^ 18)
  | .str x => PyData.strOk x
  | .tup xs => sms xs
  | .lst xs => sms xs
  | .ref _ => false
def sms : List PV → Bool
  | [] => true
  | x :: xs => sm x && sms xs
end
mutual
def wt : PV → Nat
  | .non => 4
  | .bl _ => 5
  | .int _ => 20
  | .str x => 10 * x.length + 2
  | .tup xs => wts xs + 3
  | .lst xs => wts xs + 3
  | .ref _ => 0
def wts : List PV → Nat
  | [] => 0
  | x :: xs => wt x + 2 + wts xs
end
mutual
def dp : PV → Nat
  | .tup xs => dps xs + 1
  | .lst xs => dps xs + 1
  | _ => 0
def dps : List PV → Nat
  | [] => 0
  | x :: xs => max (dp x) (dps xs)
end
mutual
/-- the data itself -/
def dt : PV → PyData
  | .non => .none
  | .bl b => .bool b
  | .int i => .int i
  | .str x => .str x
  | .tup xs => .tuple (dts xs)
  | .lst xs => .list (dts xs)
  | .ref _ => .none
def dts : List PV → List PyData
  | [] => []
  | x :: xs => dt x :: dts xs
end
theorem dts_map : ∀ xs : List PV, dts xs = xs.map dt
  | [] => rfl
  | x :: xs => by rw [dts, dts_map xs]; rfl
theorem sms_all : ∀ {xs : List PV}, sms xs = true ↔ ∀ x ∈ xs, sm x = true
  | [] => by simp [sms]
  | x :: xs => by simp [sms, sms_all (xs := xs)]
theorem text_len {i : Int} (h : i.natAbs < 10 ^ 18) : (Str.ofString (toString i)).length ≤ 19 := by
  by_cases h0 : 0 ≤ i
  · exact Nat.le_trans (toString_length_le (k := 18) h0 (by decide) (by omega)) (by decide)
  · have h1 : i < 0 := by omega
    have h2 := len_text_negI h1
    have h3 := toString_length_le (v := 0 - i) (k := 18) (by omega) (by decide) (by omega)
    omega
theorem textFrom_le : ∀ (ts : List Str) (k : Nat) (acc : Str), (PySem.textFrom k acc ts).length ≤ acc.length + PySem.piled ts
  | [], k, acc => Nat.le_add_right _ _
  | t :: ts, k, acc => by
    have := textFrom_le ts (k + 1) (acc ++ (if k > 0 then ", " else "" : String) ++ t)
    rw [PySem.piled_cons]
    have e : (acc ++ (if k > 0 then ", " else "" : String) ++ t).length ≤ acc.length + 2 + t.length := by
      rw [strLen_append, strLen_append]
      by_cases hk : k > 0
      · rw [if_pos hk]
        have : (Str.ofString ", ").length = 2 := rfl
        omega
      · rw [if_neg hk]
        have : (Str.ofString "").length = 0 := rfl
        omega
    show (PySem.textFrom (k + 1) _ ts).length ≤ _
    omega
theorem listText_le (ts : List Str) : (PySem.listText ts).length ≤ PySem.piled ts + 2 := by
  unfold PySem.listText
  rw [strLen_append]
  have := textFrom_le ts 0 "["
  have e1 : (Str.ofString "[").length = 1 := rfl
  have e2 : (Str.ofString "]").length = 1 := rfl
  omega
theorem tupleText_le (ts : List Str) : (PySem.tupleText ts).length ≤ PySem.piled ts + 3 := by
  unfold PySem.tupleText
  rw [strLen_append, strLen_append]
  have e1 : (Str.ofString "(").length = 1 := rfl
  have e2 : (Str.ofString (if ts.length == 1 then ",)" else ")")).length ≤ 2 := by split <;> decide
  have e3 : (Str.join ", " ts).length ≤ PySem.piled ts := by
    cases ts with
    | nil => exact Nat.zero_le _
    | cons a r => have := PySem.join_length_add (a :: r) (by simp); omega
  omega
mutual
theorem sm_ok : ∀ (v : PV), sm v = true → toD v = some (dt v) ∧ (dt v).showable = true ∧ (dt v).canLay0 = true ∧ (dt v).depth ≤ dp v ∧ (dt v).shown.length ≤ wt v
  | .non, _ => ⟨rfl, rfl, rfl, Nat.le_refl _, by show (Str.ofString "None").length ≤ 4; decide⟩
  | .bl b, _ => ⟨rfl, rfl, rfl, Nat.le_refl _, by cases b <;> decide⟩
  | .int i, h => by
    have h' : i.natAbs < 10 ^ 18 := of_decide_eq_true (by simpa only [sm] using h)
    refine ⟨rfl, ?_, rfl, Nat.le_refl _, Nat.le_trans (text_len h') (by simp [wt])⟩
    show decide (i.natAbs.log2 < 1920) = true
    refine decide_eq_true ?_
    by_cases h0 : i.natAbs = 0
    · rw [h0]; decide
    · refine (Nat.log2_lt h0).mpr (Nat.lt_of_lt_of_le h' ?_)
      exact Nat.le_trans (by decide : 10 ^ 18 ≤ 2 ^ 60) (Nat.pow_le_pow_right (by decide) (by decide))
  | .str x, h => by
    have h' : PyData.strOk x = true := by simpa only [sm] using h
    refine ⟨rfl, rfl, ?_, Nat.le_refl _, ?_⟩
    · simpa only [dt, PyData.canLay0] using h'
    · have := StrLaws.reprText_len x fun c hc => by
        have := Array.all_eq_true'.mp h' c (Array.mem_toList_iff.mp hc)
        have := of_decide_eq_true this
        omega
      simpa only [wt, dt, PyData.shown] using this
  | .tup xs, h => by
    obtain ⟨h1, h2, h3, h4, h5⟩ := sms_ok xs (by simpa only [sm] using h)
    refine ⟨by rw [toD, h1]; rfl, by simpa only [dt, PyData.showable] using h2, by simpa only [dt, PyData.canLay0] using h3, ?_, ?_⟩
    · simp only [dt, PyData.depth, dp]; omega
    · simp only [dt, PyData.shown, wt]
      exact Nat.le_trans (tupleText_le _) (by omega)
  | .lst xs, h => by
    obtain ⟨h1, h2, h3, h4, h5⟩ := sms_ok xs (by simpa only [sm] using h)
    refine ⟨by rw [toD, h1]; rfl, by simpa only [dt, PyData.showable] using h2, by simpa only [dt, PyData.canLay0] using h3, ?_, ?_⟩
    · simp only [dt, PyData.depth, dp]; omega
    · simp only [dt, PyData.shown, wt]
      exact Nat.le_trans (listText_le _) (by omega)
  | .ref _, h => by simp [sm] at h
theorem sms_ok : ∀ (xs : List PV), sms xs = true → toDs xs = some (dts xs) ∧ PyData.showableAll (dts xs) = true ∧ PyData.canLayAll0 (dts xs) = true ∧ PyData.depthAll (dts xs) ≤ dps xs ∧ PySem.piled (PyData.shownAll (dts xs)) ≤ wts xs
  | [], _ => ⟨rfl, rfl, rfl, Nat.le_refl _, Nat.le_refl _⟩
  | x :: xs, h => by
    have h' : sm x = true ∧ sms xs = true := by simpa only [sms, Bool.and_eq_true] using h
    obtain ⟨a1, a2, a3, a4, a5⟩ := sm_ok x h'.1
    obtain ⟨b1, b2, b3, b4, b5⟩ := sms_ok xs h'.2
    refine ⟨by rw [toDs, a1, b1]; rfl, by simp only [dts, PyData.showableAll, a2, b2]; rfl, by simp only [dts, PyData.canLayAll0, a3, b3]; rfl, ?_, ?_⟩
    · simp only [dts, PyData.depthAll, dps]; omega
    · simp only [dts, PyData.shownAll, PySem.piled_cons, wts]; omega
end
theorem dOf_sm {S : Sto} {v : PV} (h : sm v = true) : dOf S v = some (dt v) := by
  cases v with
  | ref n => simp [sm] at h
  | _ => exact (sm_ok _ h).1
theorem vRepr_sm {S : Sto} {v : PV} (h : sm v = true) (h2 : dp v ≤ 64) (h3 : wt v ≤ sizeLine) : vRepr [v] S = some (.str (dt v).shown, S) := by
  obtain ⟨a1, a2, a3, a4, a5⟩ := sm_ok v h
  simp only [vRepr, dOf_sm h]
  exact if_pos ⟨a2, PyData.hasDict_of_canLay _ a3, by omega, by omega⟩
theorem shaped_sm {v : PV} (h : sm v = true) (h2 : dp v ≤ 64) : SeqAt.shaped (dt v) = true := by
  obtain ⟨a1, a2, a3, a4, a5⟩ := sm_ok v h
  unfold SeqAt.shaped
  rw [a3, decide_eq_true (by omega : (dt v).depth ≤ 64)]; rfl
theorem vEq_sm {S : Sto} {a b : PV} (h : sm a = true) (h2 : dp a ≤ 64) (k : sm b = true) (k2 : dp b ≤ 64) : vEq a b S = some (.bl (PyData.eqv (dt a) (dt b)), S) := by
  simp only [vEq, dOf_sm h, dOf_sm k]
  exact if_pos ⟨shaped_sm h h2, shaped_sm k k2⟩
theorem vNe_sm {S : Sto} {a b : PV} (h : sm a = true) (h2 : dp a ≤ 64) (k : sm b = true) (k2 : dp b ≤ 64) : vNe a b S = some (.bl (!PyData.eqv (dt a) (dt b)), S) := by
  simp only [vNe, dOf_sm h, dOf_sm k]
  exact if_pos ⟨shaped_sm h h2, shaped_sm k k2⟩
mutual
theorem eqv_self : ∀ d : PyData, d.canLay0 = true → PyData.eqv d d = true
  | .none, _ => rfl
  | .bool b, _ => by simp [PyData.eqv]
  | .int i, _ => by simp [PyData.eqv]
  | .str x, _ => by simp [PyData.eqv]
  | .list xs, h => by rw [PyData.eqv]; exact eqvAll_self xs (by simpa only [PyData.canLay0] using h)
  | .tuple xs, h => by rw [PyData.eqv]; exact eqvAll_self xs (by simpa only [PyData.canLay0] using h)
  | .dict _, h => by simp [PyData.canLay0] at h
theorem eqvAll_self : ∀ xs : List PyData, PyData.canLayAll0 xs = true → PyData.eqvAll xs xs = true
  | [], _ => rfl
  | x :: xs, h => by
    have h' : x.canLay0 = true ∧ PyData.canLayAll0 xs = true := by simpa only [PyData.canLayAll0, Bool.and_eq_true] using h
    rw [PyData.eqvAll, eqv_self x h'.1, eqvAll_self xs h'.2]; rfl
end
theorem vEq_self {S : Sto} {a : PV} (h : sm a = true) (h2 : dp a ≤ 64) : vEq a a S = some (.bl true, S) := by
  rw [vEq_sm h h2 h h2, eqv_self _ (sm_ok a h).2.2.1]
theorem vNe_self {S : Sto} {a : PV} (h : sm a = true) (h2 : dp a ≤ 64) : vNe a a S = some (.bl false, S) := by
  rw [vNe_sm h h2 h h2, eqv_self _ (sm_ok a h).2.2.1]; rfl
theorem vIn_tup {S : Sto} {a : PV} {xs : List PV} (h : sm a = true) (h2 : dp a ≤ 64) (k : sms xs = true) (k2 : dps xs < 64) : vIn a (.tup xs) S = some (.bl ((dts xs).any fun z => PyData.eqv z (dt a)), S) := by
  have e : inAns S a (.tup xs) = some ((dts xs).any fun z => PyData.eqv z (dt a)) := by
    have k' : sm (.tup xs) = true := by simpa only [sm] using k
    have h3 := shaped_sm h h2
    have k3 := shaped_sm k' (by simp only [dp]; omega)
    have d1 := dOf_sm (S := S) h
    have d2 := dOf_sm (S := S) k'
    unfold inAns
    split
    · rename_i e1; cases e1
    · rw [d1, d2]
      exact if_pos ⟨h3, k3⟩
  unfold vIn
  rw [e]; rfl

/-! ### loops -/
theorem forL_inv {t : Sg} {b : Ss} (I : Nat → Sl → Sto → Prop) : ∀ (xs : List PV) (i : Nat) (sp : Sl) (S : Sto),
    (∀ j x sp S, xs[j]? = some x → I (i + j) sp S → ∃ sp1 sp' S', t x sp S = some sp1 ∧ (b sp1 S = .nx sp' S' ∨ b sp1 S = .ct sp' S') ∧ I (i + j + 1) sp' S') → I i sp S →
    ∃ sp' S', forL t b xs sp S = .nx sp' S' ∧ I (i + xs.length) sp' S'
  | [], i, sp, S, _, h0 => ⟨sp, S, rfl, h0⟩
  | x :: xs, i, sp, S, h, h0 => by
    obtain ⟨sp1, sp', S', e1, e2, h1⟩ := h 0 x sp S rfl h0
    obtain ⟨sp2, S2, e3, h2⟩ := forL_inv I xs (i + 1) sp' S' (fun j y sp S hy hj => by
      have := h (j + 1) y sp S (by simpa using hy) (by rw [show i + (j + 1) = i + 1 + j by omega]; exact hj)
      rw [show i + (j + 1) + 1 = i + 1 + j + 1 by omega] at this
      exact this) h1
    refine ⟨sp2, S2, ?_, by rw [List.length_cons, show i + (xs.length + 1) = i + 1 + xs.length by omega]; exact h2⟩
    simp only [forL, e1]
    rcases e2 with e2 | e2 <;> rw [e2] <;> exact e3
/-- from the first turn on -/
theorem forL_inv0 {t : Sg} {b : Ss} (I : Nat → Sl → Sto → Prop) {xs : List PV} {sp : Sl} {S : Sto} (h0 : I 0 sp S)
    (h : ∀ j x sp S, xs[j]? = some x → I j sp S → ∃ sp1 sp' S', t x sp S = some sp1 ∧ (b sp1 S = .nx sp' S' ∨ b sp1 S = .ct sp' S') ∧ I (j + 1) sp' S') :
    ∃ sp' S', forL t b xs sp S = .nx sp' S' ∧ I xs.length sp' S' := by
  have := forL_inv I xs 0 sp S (fun j x sp S hx hj => by rw [Nat.zero_add] at hj ⊢; exact h j x sp S hx hj) h0
  rwa [Nat.zero_add] at this
theorem whileN_inv {c : St'} {b : Ss} (I : Nat → Sl → Sto → Prop) (Q : Sl → Sto → Prop)
    (h : ∀ n sp S, I n sp S → ∃ k S1, c sp S = .ok k S1 ∧ (k = false → Q sp S1) ∧ (k = true → ∃ sp' S' m, (b sp S1 = .nx sp' S' ∨ b sp S1 = .ct sp' S') ∧ m < n ∧ I m sp' S')) :
    ∀ (f n : Nat) (sp : Sl) (S : Sto), n < f → I n sp S → ∃ sp' S', whileN c b f sp S = .nx sp' S' ∧ Q sp' S'
  | 0, n, _, _, hn, _ => by omega
  | f + 1, n, sp, S, hn, hI => by
    obtain ⟨k, S1, e1, h1, h2⟩ := h n sp S hI
    cases k with
    | false => exact ⟨sp, S1, by simp [whileN, e1, bindS], h1 rfl⟩
    | true =>
      obtain ⟨sp', S', m, e2, hm, hI'⟩ := h2 rfl
      obtain ⟨sp2, S2, e3, h3⟩ := whileN_inv I Q h f m sp' S' (by omega) hI'
      refine ⟨sp2, S2, ?_, h3⟩
      rcases e2 with e2 | e2 <;> simp [whileN, e1, bindS, e2, e3]
theorem lcL_map {α : Type} {sp : Sl} {t : Sg} {c : St'} {te : Sx} {S : Sto} (emb f : α → PV) (p : α → Bool) : ∀ l : List α,
    (∀ a ∈ l, ∃ sp1, t (emb a) sp S = some sp1 ∧ c sp1 S = .ok (p a) S ∧ (p a = true → te sp1 S = .ok (f a) S)) → lcL sp t c te (l.map emb) S = .ok ((l.filter p).map f) S
  | [], _ => rfl
  | a :: l, h => by
    obtain ⟨sp1, e1, e2, e3⟩ := h a (List.mem_cons_self ..)
    have ih := lcL_map emb f p l fun x hx => h x (List.mem_cons_of_mem _ hx)
    simp only [List.map_cons, lcL, e1, e2, Out.pure]
    cases hp : p a with
    | true => simp [e3 hp, ih, hp]
    | false => simp [ih, hp]
theorem lcL_map1 {α : Type} {sp : Sl} {t : Sg} {te : Sx} {S : Sto} (emb f : α → PV) (l : List α)
    (h : ∀ a ∈ l, ∃ sp1, t (emb a) sp S = some sp1 ∧ te sp1 S = .ok (f a) S) : lcL sp t stYes te (l.map emb) S = .ok (l.map f) S := by
  have := lcL_map (c := stYes) emb f (fun _ => true) l fun a ha => by
    obtain ⟨sp1, e1, e2⟩ := h a ha
    exact ⟨sp1, e1, rfl, fun _ => e2⟩
  rwa [List.filter_eq_self.mpr (fun _ _ => rfl)] at this
theorem lcL_inv {sp : Sl} {t : Sg} {te : Sx} (I : Nat → Sto → Prop) (Q : Nat → PV → Prop) : ∀ (xs : List PV) (i : Nat) (S : Sto),
    (∀ j x S, xs[j]? = some x → I (i + j) S → ∃ sp1 y S', t x sp S = some sp1 ∧ te sp1 S = .ok y S' ∧ Q (i + j) y ∧ I (i + j + 1) S') → I i S →
    ∃ ys S', lcL sp t stYes te xs S = .ok ys S' ∧ I (i + xs.length) S' ∧ ys.length = xs.length ∧ ∀ j y, ys[j]? = some y → Q (i + j) y
  | [], i, S, _, h0 => ⟨[], S, rfl, h0, rfl, by simp⟩
  | x :: xs, i, S, h, h0 => by
    obtain ⟨sp1, y, S', e1, e2, hq, h1⟩ := h 0 x S rfl h0
    obtain ⟨ys, S2, e3, h2, hl, hqs⟩ := lcL_inv I Q xs (i + 1) S' (fun j y S hy hj => by
      have := h (j + 1) y S (by simpa using hy) (by rw [show i + (j + 1) = i + 1 + j by omega]; exact hj)
      rw [show i + (j + 1) = i + 1 + j by omega] at this
      exact this) h1
    refine ⟨y :: ys, S2, ?_, by rw [List.length_cons, show i + (xs.length + 1) = i + 1 + xs.length by omega]; exact h2, by simp [hl], fun j z hz => ?_⟩
    · simp only [lcL, e1]
      show (Out.pure (te sp1 S) fun y S2 => (lcL sp t stYes te xs S2).pure fun ys S3 => Out.ok (y :: ys) S3) = _
      rw [e2]
      show ((lcL sp t stYes te xs S').pure fun ys S3 => Out.ok (y :: ys) S3) = _
      rw [e3]
    · cases j with
      | zero => simp at hz; subst hz; exact hq
      | succ j =>
        rw [show i + (j + 1) = i + 1 + j by omega]
        exact hqs j z (by simpa using hz)
theorem lcL_inv0 {sp : Sl} {t : Sg} {te : Sx} (I : Nat → Sto → Prop) (Q : Nat → PV → Prop) {xs : List PV} {S : Sto} (h0 : I 0 S)
    (h : ∀ j x S, xs[j]? = some x → I j S → ∃ sp1 y S', t x sp S = some sp1 ∧ te sp1 S = .ok y S' ∧ Q j y ∧ I (j + 1) S') :
    ∃ ys S', lcL sp t stYes te xs S = .ok ys S' ∧ I xs.length S' ∧ ys.length = xs.length ∧ ∀ j y, ys[j]? = some y → Q j y := by
  have := lcL_inv I Q xs 0 S (fun j x S hx hj => by rw [Nat.zero_add] at hj ⊢; exact h j x S hx hj) h0
  simpa only [Nat.zero_add] using this
theorem enumP_map {α : Type} (f : α → PV) : ∀ (i : Nat) (l : List α), enumP i (l.map f) = (l.zipIdx i).map fun p => PV.tup [.int (p.2 : Nat), f p.1]
  | _, [] => rfl
  | i, a :: l => by simp [enumP, enumP_map f (i + 1) l]
theorem rngP_get {lo : Int} {n j : Nat} {x : PV} (h : (rngP lo n)[j]? = some x) : j < n ∧ x = .int (lo + (j : Nat)) := by
  unfold rngP at h
  rw [List.getElem?_map] at h
  by_cases hj : j < n
  · rw [List.getElem?_range hj] at h
    cases h
    exact ⟨hj, rfl⟩
  · rw [List.getElem?_eq_none (by simpa using hj)] at h
    cases h
theorem rngP_length {lo : Int} {n : Nat} : (rngP lo n).length = n := by simp [rngP]
section
variable {α β : Type}
@[simp ↓] theorem bind_m (o : Out α) (f : α → Sto → Out β) : Out.bind o f = (match o with
  | .ok a S => f a S
  | .exc x S => .exc x S
  | .stuck => .stuck) := rfl
@[simp ↓] theorem pure_m (o : Out α) (f : α → Sto → Out β) : Out.pure o f = (match o with
  | .ok a S => f a S
  | _ => .stuck) := rfl
@[simp ↓] theorem of_m (o : Option (α × Sto)) : Out.of o = (match o with
  | some (a, S) => .ok a S
  | none => .stuck) := rfl
@[simp ↓] theorem bindS_m (o : Out α) (sp : Sl) (f : α → Sto → SOut) : bindS o sp f = (match o with
  | .ok a S => f a S
  | .exc x S => .exc x sp S
  | .stuck => .stuck) := rfl
end
@[simp] theorem wipeP_0 (sp : Sl) : wipeP sp [] = sp := rfl
@[simp] theorem wipeP_1 (sp : Sl) (v : Nat) (vs : List Nat) : wipeP sp (v :: vs) = (wipeP sp vs).set v none := rfl
@[simp] theorem listOf_lst (S : Sto) (xs : List PV) : listOf S (.lst xs) = some xs := rfl
@[simp] theorem seqOf_lst (S : Sto) (xs : List PV) : seqOf S (.lst xs) = some xs := rfl
@[simp] theorem seqOf_tup (S : Sto) (xs : List PV) : seqOf S (.tup xs) = some xs := rfl
structure Fits (n : Nat) : Prop where
  h : n ≤ sizeLine
noncomputable instance (n : Nat) : Decidable (Fits n) := Classical.propDecidable _
theorem fits_of {n : Nat} (h : n ≤ 100000) : Fits n := ⟨Nat.le_trans h (by decide)⟩
theorem fits_ite {α : Type} {n : Nat} {x y : α} : (if n ≤ sizeLine then x else y) = if Fits n then x else y := by
  by_cases h : n ≤ sizeLine
  · rw [if_pos h, if_pos ⟨h⟩]
  · rw [if_neg h, if_neg fun q => h q.h]
@[simp] theorem fits_0 : Fits 0 := fits_of (by decide)
@[simp] theorem fits_1 : Fits 1 := fits_of (by decide)
@[simp] theorem fits_2 : Fits 2 := fits_of (by decide)
@[simp] theorem fits_3 : Fits 3 := fits_of (by decide)
@[simp] theorem fits_4 : Fits 4 := fits_of (by decide)
@[simp] theorem fits_5 : Fits 5 := fits_of (by decide)
@[simp] theorem fits_6 : Fits 6 := fits_of (by decide)
@[simp] theorem fits_7 : Fits 7 := fits_of (by decide)
@[simp] theorem fits_8 : Fits 8 := fits_of (by decide)
@[simp] theorem fits_9 : Fits 9 := fits_of (by decide)
@[simp] theorem fits_10 : Fits 10 := fits_of (by decide)
@[simp] theorem fits_11 : Fits 11 := fits_of (by decide)
@[simp] theorem fits_12 : Fits 12 := fits_of (by decide)
@[simp] theorem fits_13 : Fits 13 := fits_of (by decide)
@[simp] theorem fits_14 : Fits 14 := fits_of (by decide)
@[simp] theorem fits_15 : Fits 15 := fits_of (by decide)
@[simp] theorem fits_16 : Fits 16 := fits_of (by decide)
@[simp] theorem fits_17 : Fits 17 := fits_of (by decide)
@[simp] theorem fits_18 : Fits 18 := fits_of (by decide)
@[simp] theorem fits_19 : Fits 19 := fits_of (by decide)
@[simp] theorem fits_20 : Fits 20 := fits_of (by decide)
@[simp] theorem fits_21 : Fits 21 := fits_of (by decide)
@[simp] theorem fits_22 : Fits 22 := fits_of (by decide)
@[simp] theorem fits_23 : Fits 23 := fits_of (by decide)
@[simp] theorem fits_24 : Fits 24 := fits_of (by decide)
@[simp] theorem fits_25 : Fits 25 := fits_of (by decide)
@[simp] theorem fits_26 : Fits 26 := fits_of (by decide)
@[simp] theorem fits_27 : Fits 27 := fits_of (by decide)
@[simp] theorem fits_28 : Fits 28 := fits_of (by decide)
@[simp] theorem fits_29 : Fits 29 := fits_of (by decide)
@[simp] theorem fits_30 : Fits 30 := fits_of (by decide)
@[simp] theorem fits_31 : Fits 31 := fits_of (by decide)
@[simp] theorem fits_32 : Fits 32 := fits_of (by decide)
theorem rngOk_of {j : Int} (h0 : 0 ≤ j) (h : j ≤ 16777216) : RngOk j := Nat.ble_eq_true_of_le (by omega)
@[simp ↓] theorem s_bodyF (n : Nat) (t : Ss) (as : List PV) (S : Sto) : bodyF n t as S = (match t (startP n as) S with
  | .rt v S' => .ok v S'
  | .nx _ S' => .ok .non S'
  | .exc x _ S' => .exc x S'
  | _ => .stuck) := rfl
@[simp ↓] theorem s_startP (n : Nat) (as : List PV) : startP n as  = (as.map some ++ List.replicate (n - as.length) none) := rfl
@[simp ↓] theorem s_ssNil (sp : Sl) (S : Sto) : ssNil  sp S = (.nx sp S) := rfl
@[simp ↓] theorem s_ssSeq (t u : Ss) (sp : Sl) (S : Sto) : ssSeq t u sp S = (match t sp S with
  | .nx sp' S' => u sp' S'
  | o => o) := rfl
@[simp ↓] theorem s_ssBreak (sp : Sl) (S : Sto) : ssBreak  sp S = (.bk sp S) := rfl
@[simp ↓] theorem s_ssCont (sp : Sl) (S : Sto) : ssCont  sp S = (.ct sp S) := rfl
@[simp ↓] theorem s_ssExpr (te : Sx) (sp : Sl) (S : Sto) : ssExpr te sp S = (bindS (te sp S) sp fun _ S1 => .nx sp S1) := rfl
@[simp ↓] theorem s_ssRet (te : Sx) (sp : Sl) (S : Sto) : ssRet te sp S = (bindS (te sp S) sp fun v S1 => .rt v S1) := rfl
@[simp ↓] theorem s_ssRetN (u0 : Sl) (S : Sto) : ssRetN  u0 S = (.rt .non S) := rfl
@[simp ↓] theorem s_ssIf (c : St') (t u : Ss) (sp : Sl) (S : Sto) : ssIf c t u sp S = (bindS (c sp S) sp fun k S1 => if k = true then t sp S1 else u sp S1) := rfl
@[simp ↓] theorem s_ssSet (i : Nat) (te : Sx) (sp : Sl) (S : Sto) : ssSet i te sp S = (bindS (te sp S) sp fun v S1 => .nx (sp.set i (some v)) S1) := rfl
@[simp ↓] theorem s_ssAsg (te : Sx) (t : Sg) (sp : Sl) (S : Sto) : ssAsg te t sp S = (bindS (te sp S) sp fun v S1 => match t v sp S1 with
  | some sp' => .nx sp' S1
  | none => .stuck) := rfl
@[simp ↓] theorem s_ssPar (i j : Nat) (ta : Sa) (sp : Sl) (S : Sto) : ssPar i j ta sp S = (bindS (ta sp S) sp fun vs S1 => match vs with
  | [v, w] => .nx ((sp.set i (some v)).set j (some w)) S1
  | _ => .stuck) := rfl
@[simp ↓] theorem s_ssFor (ti : Si) (t : Sg) (b : Ss) (sp : Sl) (S : Sto) : ssFor ti t b sp S = (bindS (ti sp S) sp fun src S1 => match src with
  | .items xs => forL t b xs sp S1
  | src => match srcGet src S1 with
    | none => .stuck
    | some xs => forG (srcGet src) t b xs.length 0 sp S1) := rfl
@[simp ↓] theorem s_ssSub (to ti te : Sx) (sp : Sl) (S : Sto) : ssSub to ti te sp S = (bindS (te sp S) sp fun v S1 => bindS (to sp S1) sp fun o S2 => bindS (ti sp S2) sp fun i S3 => match vSet o i v S3 with
  | some S4 => .nx sp S4
  | none => .stuck) := rfl
@[simp ↓] theorem s_ssAug (k : Nat) (op : V2) (te : Sx) (sp : Sl) (S : Sto) : ssAug k op te sp S = (match sp[k]? with
  | some (some x) => bindS (te sp S) sp fun y S1 => bindS (.of (op x y S1)) sp fun z S2 => .nx (sp.set k (some z)) S2
  | _ => .stuck) := rfl
@[simp ↓] theorem s_ssAugSub (op : V2) (to ti te : Sx) (sp : Sl) (S : Sto) : ssAugSub op to ti te sp S = (bindS (to sp S) sp fun o S1 => bindS (ti sp S1) sp fun i S2 => bindS (.of (vItemL o i S2)) sp fun x S3 => bindS (te sp S3) sp fun y S4 => bindS (.of (op x y S4)) sp fun z S5 => match vSet o i z S5 with
  | some S6 => .nx sp S6
  | none => .stuck) := rfl
@[simp ↓] theorem s_ssWhile (f : Nat) (c : St') (b : Ss) (sp : Sl) (S : Sto) : ssWhile f c b sp S = (whileN c b f sp S) := rfl
@[simp ↓] theorem s_sxVar (i : Nat) (sp : Sl) (S : Sto) : sxVar i sp S = (match sp[i]? with
  | some (some v) => .ok v S
  | _ => .stuck) := rfl
@[simp ↓] theorem s_sxC (v : PV) (u0 : Sl) (S : Sto) : sxC v u0 S = (.ok v S) := rfl
@[simp ↓] theorem s_sx1 (o : V1) (ta : Sx) (sp : Sl) (S : Sto) : sx1 o ta sp S = ((ta sp S).bind fun a S1 => .of (o a S1)) := rfl
@[simp ↓] theorem s_sx2 (o : V2) (ta tb : Sx) (sp : Sl) (S : Sto) : sx2 o ta tb sp S = ((ta sp S).bind fun a S1 => (tb sp S1).bind fun b S2 => .of (o a b S2)) := rfl
@[simp ↓] theorem s_stB (t : Sx) (sp : Sl) (S : Sto) : stB t sp S = ((t sp S).bind fun v S1 => match v with
  | .bl b => .ok b S1
  | _ => .stuck) := rfl
@[simp ↓] theorem s_sxChain (o o' : V2) (ta tb tc : Sx) (sp : Sl) (S : Sto) : sxChain o o' ta tb tc sp S = ((ta sp S).bind fun a S1 => (tb sp S1).bind fun b S2 => (Out.of (o a b S2)).bind fun z S3 => match z with
  | .bl true => (tc sp S3).bind fun c S4 => .of (o' b c S4)
  | .bl false => .ok (.bl false) S3
  | _ => .stuck) := rfl
@[simp ↓] theorem s_stAnd (t u : St') (sp : Sl) (S : Sto) : stAnd t u sp S = ((t sp S).bind fun c S1 => if c = true then u sp S1 else .ok false S1) := rfl
@[simp ↓] theorem s_stOr (t u : St') (sp : Sl) (S : Sto) : stOr t u sp S = ((t sp S).bind fun c S1 => if c = true then .ok true S1 else u sp S1) := rfl
@[simp ↓] theorem s_stNot (t : St') (sp : Sl) (S : Sto) : stNot t sp S = ((t sp S).bind fun c S1 => .ok (!c) S1) := rfl
@[simp ↓] theorem s_sxAnd (ta tb : Sx) (sp : Sl) (S : Sto) : sxAnd ta tb sp S = ((ta sp S).bind fun v S1 => match v with
  | .bl true => tb sp S1
  | .bl false => .ok (.bl false) S1
  | _ => .stuck) := rfl
@[simp ↓] theorem s_sxOr (ta tb : Sx) (sp : Sl) (S : Sto) : sxOr ta tb sp S = ((ta sp S).bind fun v S1 => match v with
  | .bl true => .ok (.bl true) S1
  | .bl false => tb sp S1
  | _ => .stuck) := rfl
@[simp ↓] theorem s_sxNot (ta : Sx) (sp : Sl) (S : Sto) : sxNot ta sp S = ((ta sp S).bind fun v S1 => match v with
  | .bl k => .ok (.bl (!k)) S1
  | _ => .stuck) := rfl
@[simp ↓] theorem s_sxIf (t : St') (ta tb : Sx) (sp : Sl) (S : Sto) : sxIf t ta tb sp S = ((t sp S).bind fun c S1 => if c = true then ta sp S1 else tb sp S1) := rfl
@[simp ↓] theorem s_saNil (u0 : Sl) (S : Sto) : saNil  u0 S = (.ok [] S) := rfl
@[simp ↓] theorem s_saCons (ta : Sx) (tr : Sa) (sp : Sl) (S : Sto) : saCons ta tr sp S = ((ta sp S).bind fun a S1 => (tr sp S1).bind fun as S2 => .ok (a :: as) S2) := rfl
@[simp ↓] theorem s_sxN (o : VN) (t : Sa) (sp : Sl) (S : Sto) : sxN o t sp S = ((t sp S).bind fun as S1 => .of (o as S1)) := rfl
@[simp ↓] theorem s_sxCall (n : Nat) (sem : Fs) (tr : Sa) (sp : Sl) (S : Sto) : sxCall n sem tr sp S = ((tr sp S).bind fun as S1 => if as.length = n then sem as S1 else .stuck) := rfl
@[simp ↓] theorem s_sgName (i : Nat) (v : PV) (sp : Sl) (u2 : Sto) : sgName i v sp u2 = (some (sp.set i (some v))) := rfl
@[simp ↓] theorem s_sgNil (vs : List PV) (sp : Sl) (u2 : Sto) : sgNil  vs sp u2 = (match vs with
  | [] => some sp
  | _ :: _ => none) := rfl
@[simp ↓] theorem s_sgCons (t : Sg) (u : Sgs) (vs : List PV) (sp : Sl) (S : Sto) : sgCons t u vs sp S = (match vs with
  | [] => none
  | v :: r => (t v sp S).bind fun sp1 => u r sp1 S) := rfl
@[simp ↓] theorem s_sgTup (n : Nat) (t : Sgs) (v : PV) (sp : Sl) (S : Sto) : sgTup n t v sp S = (match v with
  | .tup xs => if xs.length = n then t xs sp S else none
  | _ => none) := rfl
@[simp ↓] theorem s_soNo (u0 : Sl) (S : Sto) : soNo  u0 S = (.ok none S) := rfl
@[simp ↓] theorem s_soPart (t : Sx) (sp : Sl) (S : Sto) : soPart t sp S = ((t sp S).bind fun v S1 => match v with
  | .int i => .ok (some i) S1
  | _ => .stuck) := rfl
@[simp ↓] theorem s_sxSl (o : VS) (ta : Sx) (tl th : So) (sp : Sl) (S : Sto) : sxSl o ta tl th sp S = ((ta sp S).bind fun a S1 => (tl sp S1).bind fun lo S2 => (th sp S2).bind fun hi S3 => .of (o a lo hi S3)) := rfl
@[simp ↓] theorem s_sxMt (chk : Sto → PV → Bool) (o : VM) (ta : Sx) (tr : Sa) (sp : Sl) (S : Sto) : sxMt chk o ta tr sp S = ((ta sp S).bind fun a S1 => if chk S1 a = true then (tr sp S1).bind fun as S2 => .of (o a as S2) else .stuck) := rfl
@[simp ↓] theorem s_sxMt0 (chk : Sto → PV → Bool) (o : VM) (ta : Sx) (sp : Sl) (S : Sto) : sxMt0 chk o ta sp S = ((ta sp S).bind fun a S1 => if chk S1 a = true then .of (o a [] S1) else .stuck) := rfl
@[simp ↓] theorem s_sxLc (fin : VN) (ti : Si) (vs : List Nat) (t : Sg) (c : St') (te : Sx) (sp : Sl) (S : Sto) : sxLc fin ti vs t c te sp S = ((ti sp S).bind fun src S1 => (lcRun src (wipeP sp vs) t c te S1).pure fun ys S2 => .of (fin ys S2)) := rfl
@[simp ↓] theorem s_lcRun (src : Src) (sp : Sl) (t : Sg) (c : St') (te : Sx) (S : Sto) : lcRun src sp t c te S  = (match src with
  | .items xs => lcL sp t c te xs S
  | src => match srcGet src S with
    | none => .stuck
    | some xs => lcG (srcGet src) sp t c te xs.length 0 S) := rfl
@[simp ↓] theorem s_siSeq (te : Sx) (sp : Sl) (S : Sto) : siSeq te sp S = ((te sp S).bind srcOf) := rfl
@[simp ↓] theorem s_srcOf (v : PV) (S1 : Sto) : srcOf v S1  = (match v with
  | .tup xs => .ok (.items xs) S1
  | .lst xs => .ok (.items xs) S1
  | .str z => .ok (.items (charsOf z)) S1
  | .ref n => match listOf S1 (.ref n) with
    | some _ => .ok (.live n) S1
    | none => .stuck
  | _ => .stuck) := rfl
@[simp ↓] theorem s_siRange1 (ta : Sx) (sp : Sl) (S : Sto) : siRange1 ta sp S = ((ta sp S).bind fun v S1 => match v with
  | .int j => if RngOk j then .ok (.items (rngP 0 j.toNat)) S1 else .stuck
  | _ => .stuck) := rfl
@[simp ↓] theorem s_siRange2 (ta tb : Sx) (sp : Sl) (S : Sto) : siRange2 ta tb sp S = ((ta sp S).bind fun v S1 => (tb sp S1).bind fun w S2 => match v, w with
  | .int i, .int j => if RngOk i ∧ RngOk j then .ok (.items (rngP i (j - i).toNat)) S2 else .stuck
  | _, _ => .stuck) := rfl
@[simp ↓] theorem s_siEnum (te : Sx) (sp : Sl) (S : Sto) : siEnum te sp S = ((te sp S).bind srcEnum) := rfl
@[simp ↓] theorem s_srcEnum (v : PV) (S1 : Sto) : srcEnum v S1  = (match v with
  | .tup xs => .ok (.items (enumP 0 xs)) S1
  | .lst xs => .ok (.items (enumP 0 xs)) S1
  | .ref n => match listOf S1 (.ref n) with
    | some _ => .ok (.liveE n) S1
    | none => .stuck
  | _ => .stuck) := rfl
@[simp ↓] theorem s_stYes (u0 : Sl) (S : Sto) : stYes  u0 S = (.ok true S) := rfl
@[simp ↓] theorem s_vTup (as : List PV) (S : Sto) : vTup  as S = (if Fits as.length then some (.tup as, S) else none) := fits_ite
@[simp ↓] theorem s_vLst (as : List PV) (S : Sto) : vLst  as S = (if Fits as.length then some (.lst as, S) else none) := fits_ite
@[simp ↓] theorem s_vNew (as : List PV) (S : Sto) : vNew  as S = (if Fits as.length then some (.ref S.length, S ++ [.lst as]) else none) := fits_ite
@[simp ↓] theorem s_fzL (ys : List PV) (S : Sto) : fzL  ys S = (if Fits ys.length then some (.lst ys, S) else none) := fits_ite
@[simp ↓] theorem s_nwL (ys : List PV) (S : Sto) : nwL  ys S = (if Fits ys.length then some (.ref S.length, S ++ [.lst ys]) else none) := fits_ite
@[simp ↓] theorem s_vInt (as : List PV) (S : Sto) : vInt  as S = (match as with
  | [.int i] => some (.int i, S)
  | [.bl k] => some (.int (if k then 1 else 0), S)
  | _ => none) := rfl
@[simp ↓] theorem s_vLt (a : PV) (b : PV) (S : Sto) : vLt  a b S = (match a, b with
  | .int i, .int j => some (.bl (decide (i < j)), S)
  | _, _ => none) := rfl
@[simp ↓] theorem s_vLe (a : PV) (b : PV) (S : Sto) : vLe  a b S = (match a, b with
  | .int i, .int j => some (.bl (decide (i ≤ j)), S)
  | _, _ => none) := rfl
@[simp ↓] theorem s_vGt (a : PV) (b : PV) (S : Sto) : vGt  a b S = (match a, b with
  | .int i, .int j => some (.bl (decide (j < i)), S)
  | _, _ => none) := rfl
@[simp ↓] theorem s_vGe (a : PV) (b : PV) (S : Sto) : vGe  a b S = (match a, b with
  | .int i, .int j => some (.bl (decide (j ≤ i)), S)
  | _, _ => none) := rfl
@[simp ↓] theorem s_vIsN (a : PV) (b : PV) (S : Sto) : vIsN  a b S = (match a, b with
  | .non, .non => some (.bl true, S)
  | _, .non => some (.bl false, S)
  | _, _ => none) := rfl
@[simp ↓] theorem s_vIsNotN (a : PV) (b : PV) (S : Sto) : vIsNotN  a b S = (match a, b with
  | .non, .non => some (.bl false, S)
  | _, .non => some (.bl true, S)
  | _, _ => none) := rfl
@[simp ↓] theorem s_vSub (a : PV) (b : PV) (S : Sto) : vSub  a b S = (match a, b with
  | .int i, .int j => some (.int (i - j), S)
  | _, _ => none) := rfl
@[simp ↓] theorem s_isL (S : Sto) (a : PV) : isL S a  = ((listOf S a).isSome) := rfl
@[simp ↓] theorem s_vMin2 (as : List PV) (S : Sto) : vMin2  as S = (match as with
  | [.int i, .int j] => some (.int (if j < i then j else i), S)
  | _ => none) := rfl
@[simp ↓] theorem s_vMax2 (as : List PV) (S : Sto) : vMax2  as S = (match as with
  | [.int i, .int j] => some (.int (if j > i then j else i), S)
  | _ => none) := rfl
@[simp ↓] theorem s_vNeg (a : PV) (S : Sto) : vNeg  a S = (match a with
  | .int i => some (.int (-i), S)
  | _ => none) := rfl
@[simp ↓] theorem s_vLen (as : List PV) (S : Sto) : vLen  as S = (match as with
  | [.str z] => if Fits z.length then some (.int z.length, S) else none
  | [a] => (seqOf S a).map fun xs => (.int xs.length, S)
  | _ => none) := by
  match as with
  | [] => rfl
  | [a] => cases a <;> first | exact fits_ite | rfl
  | a :: _ :: _ => cases a <;> rfl
@[simp ↓] theorem s_vTuple (as : List PV) (S : Sto) : vTuple  as S = (match as with
  | [.tup xs] => some (.tup xs, S)
  | [a] => (listOf S a).map fun xs => (.tup xs, S)
  | _ => none) := rfl
@[simp ↓] theorem s_vItem (a : PV) (b : PV) (S : Sto) : vItem  a b S = (match b with
  | .int i => match a with
    | .str z => if Fits z.length then (atI z.cps.toList i).map fun c => (.str ⟨#[c]⟩, S) else none
    | a => match seqOf S a with
      | some xs => (atI xs i).map fun x => (x, S)
      | none => none
  | _ => none) := by
  unfold vItem
  cases b with
  | int i =>
    cases a with
    | str z => exact fits_ite
    | _ => rfl
  | _ => rfl
@[simp ↓] theorem s_vAppend (n : Nat) (v : PV) (S : Sto) : vAppend (.ref n) [v] S = (match S[n]? with
    | some (.lst xs) => if Fits (xs.length + 1) then some (.non, S.set n (.lst (xs ++ [v]))) else none
    | _ => none) := by
  show (match S[n]? with
    | some (.lst xs) => if xs.length < sizeLine then some (PV.non, S.set n (.lst (xs ++ [v]))) else none
    | _ => none) = _
  cases S[n]? with
  | none => rfl
  | some so => cases so <;> first | exact fits_ite | rfl
@[simp] theorem atI_nat {α : Type} {xs : List α} {i : Nat} : atI xs (i : Int) = xs[i]? := by
  unfold atI ixN
  simp only [Int.natCast_nonneg, if_true, Int.ofNat_lt, Int.toNat_natCast]
  split
  · rfl
  · rename_i h
    rw [List.getElem?_eq_none (by omega)]; rfl
@[simp] theorem atI_lit {α : Type} {xs : List α} {i : Nat} : atI xs (no_index (OfNat.ofNat i) : Int) = xs[i]? := atI_nat
theorem zipIdx_mem {α : Type} : ∀ {l : List α} {i : Nat} {p : α × Nat}, p ∈ l.zipIdx i → ∃ j, l[j]? = some p.1 ∧ p.2 = i + j := fun {l i p} h => by
  obtain ⟨j, hj⟩ := List.getElem?_of_mem h
  rw [List.getElem?_zipIdx] at hj
  cases q : l[j]? with
  | none => rw [q] at hj; cases hj
  | some a => rw [q] at hj; cases hj; exact ⟨j, q, rfl⟩
@[simp] theorem kit_NoneType_bool : kitB "NoneType" "bool" = some false := by decide +kernel
@[simp] theorem kit_NoneType_int : kitB "NoneType" "int" = some false := by decide +kernel
@[simp] theorem kit_NoneType_str : kitB "NoneType" "str" = some false := by decide +kernel
@[simp] theorem kit_NoneType_tuple : kitB "NoneType" "tuple" = some false := by decide +kernel
@[simp] theorem kit_NoneType_list : kitB "NoneType" "list" = some false := by decide +kernel
@[simp] theorem kit_NoneType_dict : kitB "NoneType" "dict" = some false := by decide +kernel
@[simp] theorem kit_bool_bool : kitB "bool" "bool" = some true := by decide +kernel
@[simp] theorem kit_bool_int : kitB "bool" "int" = some true := by decide +kernel
@[simp] theorem kit_bool_str : kitB "bool" "str" = some false := by decide +kernel
@[simp] theorem kit_bool_tuple : kitB "bool" "tuple" = some false := by decide +kernel
@[simp] theorem kit_bool_list : kitB "bool" "list" = some false := by decide +kernel
@[simp] theorem kit_bool_dict : kitB "bool" "dict" = some false := by decide +kernel
@[simp] theorem kit_int_bool : kitB "int" "bool" = some false := by decide +kernel
@[simp] theorem kit_int_int : kitB "int" "int" = some true := by decide +kernel
@[simp] theorem kit_int_str : kitB "int" "str" = some false := by decide +kernel
@[simp] theorem kit_int_tuple : kitB "int" "tuple" = some false := by decide +kernel
@[simp] theorem kit_int_list : kitB "int" "list" = some false := by decide +kernel
@[simp] theorem kit_int_dict : kitB "int" "dict" = some false := by decide +kernel
@[simp] theorem kit_str_bool : kitB "str" "bool" = some false := by decide +kernel
@[simp] theorem kit_str_int : kitB "str" "int" = some false := by decide +kernel
@[simp] theorem kit_str_str : kitB "str" "str" = some true := by decide +kernel
@[simp] theorem kit_str_tuple : kitB "str" "tuple" = some false := by decide +kernel
@[simp] theorem kit_str_list : kitB "str" "list" = some false := by decide +kernel
@[simp] theorem kit_str_dict : kitB "str" "dict" = some false := by decide +kernel
@[simp] theorem kit_tuple_bool : kitB "tuple" "bool" = some false := by decide +kernel
@[simp] theorem kit_tuple_int : kitB "tuple" "int" = some false := by decide +kernel
@[simp] theorem kit_tuple_str : kitB "tuple" "str" = some false := by decide +kernel
@[simp] theorem kit_tuple_tuple : kitB "tuple" "tuple" = some true := by decide +kernel
@[simp] theorem kit_tuple_list : kitB "tuple" "list" = some false := by decide +kernel
@[simp] theorem kit_tuple_dict : kitB "tuple" "dict" = some false := by decide +kernel
@[simp] theorem kit_list_bool : kitB "list" "bool" = some false := by decide +kernel
@[simp] theorem kit_list_int : kitB "list" "int" = some false := by decide +kernel
@[simp] theorem kit_list_str : kitB "list" "str" = some false := by decide +kernel
@[simp] theorem kit_list_tuple : kitB "list" "tuple" = some false := by decide +kernel
@[simp] theorem kit_list_list : kitB "list" "list" = some true := by decide +kernel
@[simp] theorem kit_list_dict : kitB "list" "dict" = some false := by decide +kernel
@[simp] theorem kit_dict_bool : kitB "dict" "bool" = some false := by decide +kernel
@[simp] theorem kit_dict_int : kitB "dict" "int" = some false := by decide +kernel
@[simp] theorem kit_dict_str : kitB "dict" "str" = some false := by decide +kernel
@[simp] theorem kit_dict_tuple : kitB "dict" "tuple" = some false := by decide +kernel
@[simp] theorem kit_dict_list : kitB "dict" "list" = some false := by decide +kernel
@[simp] theorem kit_dict_dict : kitB "dict" "dict" = some true := by decide +kernel
@[simp] theorem vEq_int (i j : Int) (S : Sto) : vEq (.int i) (.int j) S = some (.bl (decide (i = j)), S) := by
  have e : PyData.eqv (.int i) (.int j) = decide (i = j) := by rw [PyData.eqv]; rfl
  unfold vEq
  rw [← e]
  exact if_pos ⟨rfl, rfl⟩
@[simp] theorem vNe_int (i j : Int) (S : Sto) : vNe (.int i) (.int j) S = some (.bl (!decide (i = j)), S) := by
  have e : PyData.eqv (.int i) (.int j) = decide (i = j) := by rw [PyData.eqv]; rfl
  unfold vNe
  rw [← e]
  exact if_pos ⟨rfl, rfl⟩
theorem eqv_str (x y : Str) : PyData.eqv (.str x) (.str y) = decide (x = y) := by
  rw [PyData.eqv]
  by_cases h : x = y
  · subst h; simp
  · rw [decide_eq_false h]; exact beq_eq_false_iff_ne.mpr h
theorem vEq_str {x y : Str} {S : Sto} (hx : PyData.strOk x = true) (hy : PyData.strOk y = true) : vEq (.str x) (.str y) S = some (.bl (decide (x = y)), S) := by
  rw [vEq_sm (by simpa only [sm] using hx) (by simp [dp]) (by simpa only [sm] using hy) (by simp [dp]), ← eqv_str]; rfl
theorem eqv_tup2 (a b c d : PyData) : PyData.eqv (.tuple [a, b]) (.tuple [c, d]) = (PyData.eqv a c && PyData.eqv b d) := by
  simp [PyData.eqv, PyData.eqvAll]
theorem sms_map {α : Type} {f : α → PV} {l : List α} (h : ∀ a ∈ l, sm (f a) = true) : sms (l.map f) = true := sms_all.mpr fun x hx => by
  obtain ⟨a, ha, rfl⟩ := List.mem_map.mp hx
  exact h a ha
theorem dps_map {α : Type} {f : α → PV} {n : Nat} : ∀ {l : List α}, (∀ a ∈ l, dp (f a) ≤ n) → dps (l.map f) ≤ n
  | [], _ => Nat.zero_le _
  | a :: l, h => by
    have h1 := h a (List.mem_cons_self ..)
    have h2 := dps_map (l := l) fun x hx => h x (List.mem_cons_of_mem _ hx)
    simp only [List.map_cons, dps]
    omega
theorem wts_map {α : Type} {f : α → PV} {n : Nat} : ∀ {l : List α}, (∀ a ∈ l, wt (f a) ≤ n) → wts (l.map f) ≤ l.length * (n + 2)
  | [], _ => Nat.zero_le _
  | a :: l, h => by
    have h1 := h a (List.mem_cons_self ..)
    have h2 := wts_map (l := l) fun x hx => h x (List.mem_cons_of_mem _ hx)
    simp only [List.map_cons, wts, List.length_cons, Nat.add_mul, Nat.one_mul]
    omega
@[simp] theorem cutP_take (xs : List PV) (j : Nat) : cutP xs none (some (j : Int)) = xs.take j := by
  unfold cutP
  have e1 : HT.sIx xs.length 0 none = 0 := rfl
  have e2 : HT.sIx xs.length xs.length (some (j : Int)) = min j xs.length := by
    unfold HT.sIx
    simp
    omega
  rw [e1, e2]
  simp [List.take_take]
theorem enumP0_get {xs : List PV} {j : Nat} {x : PV} (h : (enumP 0 xs)[j]? = some x) : ∃ y, xs[j]? = some y ∧ x = .tup [.int (j : Nat), y] := by
  rw [enumP_get] at h
  cases q : xs[j]? with
  | none => rw [q] at h; cases h
  | some y => rw [q, Nat.zero_add] at h; cases h; exact ⟨y, rfl, rfl⟩
theorem rngP0 (n : Nat) : rngP 0 n = (List.range n).map fun i => PV.int (i : Nat) := by
  unfold rngP
  exact List.map_congr_left fun i _ => by rw [Int.zero_add]
theorem map_get {α : Type} {f : α → PV} {l : List α} {j : Nat} {x : PV} (h : (l.map f)[j]? = some x) : ∃ a, l[j]? = some a ∧ x = f a := by
  rw [List.getElem?_map] at h
  cases q : l[j]? with
  | none => rw [q] at h; cases h
  | some a => rw [q] at h; cases h; exact ⟨a, rfl, rfl⟩
@[simp] theorem set_concat {α : Type} (S : List α) (x y : α) : (S ++ [x]).set S.length y = S ++ [y] := by
  rw [List.set_append_right _ _ (Nat.le_refl _)]; simp
theorem atI_last {α : Type} {xs : List α} : atI xs (-1) = xs.getLast? := by
  cases xs with
  | nil => rfl
  | cons a l =>
    unfold atI ixN
    rw [if_neg (by omega), if_pos (by simp only [List.length_cons]; omega)]
    rw [List.getLast?_eq_getElem?]
    show (a :: l)[((-1 : Int) + ((a :: l).length : Nat)).toNat]? = _
    congr 1
    simp only [List.length_cons]
    omega
theorem wp_and {a b : Bool} (h1 : a = true) (h2 : b = true) : (a && b) = true := by rw [h1, h2]; rfl
end MX

end

section
/-! Further operations: sorted, order of data, index, turned rows. -/
namespace MX
open PySem PySem.Spec PyProof.Rows L2

mutual
theorem toD_dt : ∀ (x : PV) (d : PyData), toD x = some d → d = dt x
  | .non, _, h => (Option.some.inj h).symm
  | .bl _, _, h => (Option.some.inj h).symm
  | .int _, _, h => (Option.some.inj h).symm
  | .str _, _, h => (Option.some.inj h).symm
  | .tup xs, d, h => by
    simp only [toD, Option.map_eq_some_iff] at h
    obtain ⟨ds, e1, e2⟩ := h
    rw [← e2, toDs_dt xs ds e1]; rfl
  | .lst xs, d, h => by
    simp only [toD, Option.map_eq_some_iff] at h
    obtain ⟨ds, e1, e2⟩ := h
    rw [← e2, toDs_dt xs ds e1]; rfl
  | .ref _, _, h => by cases h
theorem toDs_dt : ∀ (xs : List PV) (ds : List PyData), toDs xs = some ds → ds = dts xs
  | [], _, h => (Option.some.inj h).symm
  | x :: xs, ds, h => by
    simp only [toDs] at h
    split at h
    · rename_i d r e1 e2
      cases h
      rw [toD_dt x d e1, toDs_dt xs r e2]; rfl
    · cases h
end
theorem toDs_all : ∀ {xs : List PV} {ds : List PyData}, toDs xs = some ds → ∀ x ∈ xs, toD x = some (dt x)
  | [], _, _, _, h => by cases h
  | y :: ys, ds, h, x, hx => by
    simp only [toDs] at h
    split at h
    · rename_i d r e1 e2
      rcases List.mem_cons.mp hx with rfl | hx
      · rw [e1, toD_dt _ d e1]
      · exact toDs_all e2 x hx
    · cases h

/-! ### sorted -/
def srtOk (xs : List PV) : Bool := (toDs xs).isSome && (xs.all fun x => xs.all fun y => PySem.W.alike (dt x) (dt y)) && ((xs.all fun x => match dt x with
  | .tuple (_ :: _) => true
  | _ => false) || xs.all fun x => match dt x with
  | .tuple _ => false
  | .none => false
  | _ => true) && decide (PyData.depthAll (dts xs) ≤ 60)
def dle (x y : PV) : Bool := !PySem.W.dataLt (dt y) (dt x)
def vSorted : VN := fun as S => match as with
  | [a] => match listOf S a with
    | some xs => if srtOk xs = true ∧ xs.length ≤ sizeLine then some (.lst (xs.mergeSort dle), S) else none
    | none => none
  | _ => none
theorem depth_mem : ∀ {xs : List PV} {x : PV}, x ∈ xs → (dt x).depth ≤ PyData.depthAll (dts xs)
  | [], _, h => by cases h
  | y :: ys, x, h => by
    simp only [dts, PyData.depthAll]
    rcases List.mem_cons.mp h with rfl | h
    · omega
    · have := depth_mem h; omega
section
variable {X : Cx}
theorem each_of {K : PySem.W.Frag} {g : Gh} : ∀ {xs : List PV} {vs : List V} {us : List Value}, RepVs K g xs vs → Vals vs us → PySem.W.EachIs (fun u x => ∃ v, RelV v u ∧ RepV K g x v) us xs
  | [], vs, us, r, q => by
    cases (show vs = [] from r); cases q; exact .nil
  | x :: xs, vs, us, r, q => by
    obtain ⟨v, t, e, r1, r2⟩ := r
    subst e
    cases q with
    | cons q1 q2 => exact .cons ⟨v, q1, r1⟩ (each_of r2 q2)
theorem of_each {K : PySem.W.Frag} {g : Gh} : ∀ {xs : List PV} {us : List Value}, PySem.W.EachIs (fun u x => ∃ v, RelV v u ∧ RepV K g x v) us xs → ∃ vs, RepVs K g xs vs ∧ Vals vs us
  | _, _, .nil => ⟨[], .nil, .nil⟩
  | _, _, .cons ⟨v, q1, r1⟩ t => by
    obtain ⟨vs, r2, q2⟩ := of_each t
    exact ⟨v :: vs, .cons r1 r2, .cons q1 q2⟩
theorem cl_sorted (hu : X.A.units + 65 < cLine) : CallN X (.builtin "sorted") vSorted := by
  intro pins s σ H xs us Q I r ⟨g, S, as, hS, rr, p⟩
  unfold vSorted at p
  split at p
  · rename_i a
    split at p
    · rename_i ys e1
      split at p
      · rename_i hc
        obtain ⟨hso, hz⟩ := hc
        obtain ⟨x, rfl, r1⟩ := rr.one
        obtain ⟨l, vs, q1, q2, q3⟩ := hS.list r1 e1
        subst q1
        rw [Vals.ref1 r]
        obtain ⟨its, n, z, rv, eo⟩ := q2.obj I
        have hl : s.heap.IsList l its.toArray := ⟨_, eo, rfl, n, rfl⟩
        unfold srtOk at hso
        simp only [Bool.and_eq_true, decide_eq_true_eq] at hso
        obtain ⟨⟨⟨h1, h2⟩, h3⟩, h4⟩ := hso
        obtain ⟨ds, hds⟩ := Option.isSome_iff_exists.mp h1
        have hto := toDs_all hds
        have ea := each_of q3 rv
        have er : PySem.W.EachIs (fun u x => ∃ as, Reads s.heap u (dt x) as) its ys := by
          have ea2 := PySem.W.each_mem ea
          refine ea2.mono fun u x ⟨⟨v, k1, k2⟩, hm⟩ => ?_
          exact Dp.reads I (dt x) v u (toD_rep hS.fz x v (dt x) k2 (hto x hm)) k1
        have hal : PySem.W.AllAlike (ys.map dt) := fun d hd d' hd' => by
          obtain ⟨x, hx, rfl⟩ := List.mem_map.mp hd
          obtain ⟨y, hy, rfl⟩ := List.mem_map.mp hd'
          exact List.all_eq_true.mp (List.all_eq_true.mp h2 x hx) y hy
        have hk : PySem.W.Sortable (ys.map dt) := by
          rcases Bool.or_eq_true_iff.mp h3 with h3 | h3
          · refine .inl fun d hd => ?_
            obtain ⟨x, hx, rfl⟩ := List.mem_map.mp hd
            have := List.all_eq_true.mp h3 x hx
            split at this
            · rename_i y r e; exact ⟨y, r, e⟩
            · cases this
          · refine .inr fun d hd => ?_
            obtain ⟨x, hx, rfl⟩ := List.mem_map.mp hd
            have := List.all_eq_true.mp h3 x hx
            refine ⟨fun e => ?_, fun xs e => ?_⟩ <;> (rw [e] at this; cases this)
        refine PySem.W.sorted_data (enc := dt) hl ea er hal hk hz (fun b hb => ?_) fun out h5 h6 => ?_
        · have := depth_mem hb; omega
        · obtain ⟨ws, w1, w2⟩ := of_each h6
          obtain ⟨ep, he'⟩ := PyProof.Rows.sortedAll_at s.heap its out.toArray
          have hlen : ws.length ≤ sizeLine := by
            rw [← w1.length, List.length_mergeSort]; exact hz
          refine ⟨.ref _, upd H (s.heap.objs.size + 1) (.lst ws), I.laid (t' := s.toks) (fun _ _ => PyProof.Rows.sortedAll_old) (Nat.le_succ _) ⟨hlen, out, ep, w2, he'⟩, rfl, ?_⟩
          exact p.lst hS w1 _ (I.hok.fresh (Nat.le_succ _))
      · exact p.elim
    · exact p.elim
  · exact p.elim
/-! ### order of data -/
def ordOk (d e : PyData) : Bool := PySem.W.alike d e && (match d with
  | .none => false
  | _ => true) && decide (min d.depth e.depth ≤ 60)
theorem ordOk_of {d e : PyData} (h : ordOk d e = true) : PySem.W.alike d e = true ∧ d ≠ .none ∧ min d.depth e.depth ≤ 60 := by
  unfold ordOk at h
  simp only [Bool.and_eq_true, decide_eq_true_eq] at h
  obtain ⟨⟨h1, h2⟩, h3⟩ := h
  exact ⟨h1, (fun z => by subst z; cases h2), h3⟩
def vOrd (f : Int → Int → Bool) (q : PyData → PyData → Bool) : V2 := fun a b S => match a, b with
  | .int i, .int j => some (.bl (f i j), S)
  | a, b => match dOf S a, dOf S b with
    | some d, some e => if ordOk d e = true then some (.bl (q d e), S) else none
    | _, _ => none
def vLtA : V2 := vOrd (fun i j => decide (i < j)) fun d e => PySem.W.dataLt d e
def vLeA : V2 := vOrd (fun i j => decide (i ≤ j)) fun d e => !PySem.W.dataLt e d
def vGtA : V2 := vOrd (fun i j => decide (j < i)) fun d e => PySem.W.dataLt e d
def vGeA : V2 := vOrd (fun i j => decide (j ≤ i)) fun d e => !PySem.W.dataLt d e
theorem op_ord {op : CmpOp} {f : Int → Int → Bool} {q : PyData → PyData → Bool} {vi : V2} (hi : Op2 X (compareOp op) vi) (hf : ∀ i j S, vi (.int i) (.int j) S = some (.bl (f i j), S))
    (hd : ∀ {s : Shared} {a b : Value} {as bs : List Addr} {d e : PyData} {E : Value → Shared → Prop} {R : Value → Shared → Prop}, Reads s.heap a d as → Reads s.heap b e bs → PySem.W.alike d e = true → d ≠ .none → X.A.units + min d.depth e.depth < cLine → R (.bool (q d e)) s → wpAny (model X.prog X.w) X.A (compareOp op a b) R E s) (hu : X.A.units + 65 < cLine) :
    Op2 X (compareOp op) (vOrd f q) := by
  intro pins s σ H x y v u Q I rx ry ⟨g, S, a, b, hS, r1, r2, p⟩
  have key : ∀ d e, dOf S a = some d → dOf S b = some e → PostO X g (RepV X.K) (if ordOk d e = true then some (.bl (q d e), S) else none) Q → wpAny (model X.prog X.w) X.A (compareOp op v u) (EP X pins σ Q) X.xe s := fun d e e1 e2 p => by
    by_cases h : ordOk d e = true
    · rw [if_pos h] at p
      obtain ⟨h1, h2, h3⟩ := ordOk_of h
      obtain ⟨as, k1⟩ := Dp.reads I d x v (hS.data r1 e1) rx
      obtain ⟨bs, k2⟩ := Dp.reads I e y u (hS.data r2 e2) ry
      exact hd k1 k2 h1 h2 (by omega) ⟨.bl _, H, I, rfl, p.now hS rfl⟩
    · rw [if_neg h] at p; exact p.elim
  have gen : PostO X g (RepV X.K) (match dOf S a, dOf S b with
    | some d, some e => if ordOk d e = true then some (PV.bl (q d e), S) else none
    | _, _ => none) Q → wpAny (model X.prog X.w) X.A (compareOp op v u) (EP X pins σ Q) X.xe s := fun p => by
    split at p
    · rename_i d e e1 e2; exact key d e e1 e2 p
    · exact p.elim
  cases a with
  | int i =>
    cases b with
    | int j => exact hi pins s σ H x y v u Q I rx ry ⟨g, S, .int i, .int j, hS, r1, r2, by rw [hf]; exact p⟩
    | _ => exact gen p
  | _ => exact gen p
theorem op_ltA (hu : X.A.units + 65 < cLine) : Op2 X (compareOp .Lt) vLtA := op_ord op_lt' (fun _ _ _ => rfl) (fun r1 r2 h1 h2 h3 h4 => PySem.W.lt_data r1 r2 h1 h2 h3 h4) hu
theorem op_leA (hu : X.A.units + 65 < cLine) : Op2 X (compareOp .LtE) vLeA := op_ord op_le' (fun _ _ _ => rfl) (fun r1 r2 h1 h2 h3 h4 => PySem.W.le_data r1 r2 h1 h2 h3 h4) hu
theorem op_gtA (hu : X.A.units + 65 < cLine) : Op2 X (compareOp .Gt) vGtA := op_ord op_gt' (fun _ _ _ => rfl) (fun r1 r2 h1 h2 h3 h4 => PySem.W.gt_data r1 r2 h1 h2 h3 h4) hu
theorem op_geA (hu : X.A.units + 65 < cLine) : Op2 X (compareOp .GtE) vGeA := op_ord op_ge' (fun _ _ _ => rfl) (fun r1 r2 h1 h2 h3 h4 => PySem.W.ge_data r1 r2 h1 h2 h3 h4) hu
end
end MX

end

section
/-! Dicts whose keys are rows: comprehensions, in, items, walks. -/
namespace MX
open PySem PySem.Spec PyProof.Rows L2

/-- the values of a key -/
def AtomV (v : V) (k : Key) : Prop := match v with
  | .int i => k = .inl i
  | .bl b => k = .inl (PpSet.b2 b)
  | .str x => k = .inr x
  | _ => False
def KeyV (K : PySem.W.Frag) (H : Hp) (ks : List Key) (a : Addr) : Prop := ∃ vs, SqT K H a vs ∧ Paired AtomV vs ks
section
variable {X : Cx} {pins : List (Addr × Obj)} {σ : L2.St} {H : Hp} {s : Shared}
theorem items_u {P : Program} {w : World} : ∀ {vs : List V} {us : List Value} {ks : List Key}, Vals vs us → Paired AtomV vs ks → ItemsAre (uKind P w) ks us
  | _, _, _, .nil, .nil => .nil
  | v :: _, u :: _, k :: _, .cons r t, .cons q tq => by
    refine .cons ?_ (items_u t tq)
    show uIs k u = true
    cases v with
    | int i =>
      obtain ⟨t, rfl⟩ := r
      rw [(show k = _ from q)]; exact uIs_int i t
    | bl b =>
      rw [(show u = Value.bool b from r), (show k = _ from q)]; exact uIs_bool b
    | str x =>
      obtain ⟨t, rfl⟩ := r
      rw [(show k = _ from q)]; exact uIs_str x t
    | _ => exact q.elim
theorem KeyV.is (I : Inv X pins σ H s) {ks : List Key} {a : Addr} (k : KeyV X.K H ks a) : (tupleKind (uKind X.prog X.w)).is s.heap ks a := by
  obtain ⟨vs, h, q⟩ := k
  obtain ⟨its, r, t, _⟩ := I.tuple h
  obtain ⟨o, h1, h2, n, h3⟩ := t
  exact ⟨o, its.toArray, n, h1, h2, h3, by simpa using items_u r q⟩
theorem ud_at (I : Inv X pins σ H s) {D : Addr} {xs : List (List Key × Addr × Value)} (e : H D = some (UD X.prog X.w D xs)) (k : ∀ x ∈ xs, KeyV X.K H x.1 x.2.1) : s.heap.DictOfH (tupleKind (uKind X.prog X.w)) D xs := by
  obtain ⟨⟨o, es, ep, h1, h2, h3, h4, h5⟩, _, _⟩ := I.hok D _ e
  exact ⟨o, es, ep, h1, h2, h3, h4, fun x hx => (k x hx).is I, h5⟩
theorem ud_ok {P : Program} {w : World} {H : Hp} {h : Heap} {D : Addr} {xs : List (List Key × Addr × Value)} (d : h.DictOfH (tupleKind (uKind P w)) D xs) : ObjOk P w H h D (UD P w D xs) := by
  obtain ⟨o, es, ep, h1, h2, h3, h4, h5, h6⟩ := d
  exact ⟨⟨o, es, ep, h1, h2, h3, h4, h6⟩, ⟨o, h1⟩, fun a b ⟨o', es', ep', q1, q2⟩ f => ⟨o', es', ep', f o' q1, q2⟩⟩
theorem ud_new {P : Program} {w : World} {H : Hp} (h : Heap) : ObjOk P w H (h.push { cls := .type "dict", data := .dict #[] }) h.objs.size (UD P w h.objs.size []) :=
  ud_ok ⟨_, #[], _, Heap.get?_push_size _ rfl, ⟨rfl, rfl, rfl⟩, rfl, rfl, fun x hx => (by cases hx), .nil⟩
/-- a turn's store -/
theorem ud_put {E : Value → Shared → Prop} {D b : Addr} {xs : List (List Key × Addr × Value)} {ks : List Key} {u : Value} {Q : Unit → Shared → Prop} (I : Inv X pins σ H s) (hu : X.A.units < cLine) (e : H D = some (UD X.prog X.w D xs)) (hk : ∀ x ∈ xs, KeyV X.K H x.1 x.2.1) (kb : KeyV X.K H ks b) (hz : xs.length ≤ sizeLine)
    (q : ∀ s', Inv X pins σ (upd H D (UD X.prog X.w D (storedH xs ks b u))) s' → Q () s') : wpAny (model X.prog X.w) X.A (dictSet D (.ref b) u) Q E s := by
  refine wpAny_dictSet_heap (hsz := hz) (knd := tupleKind (uKind X.prog X.w)) hu (kb.is I) (ud_at I e hk) fun h2 d2 same => q _ ?_
  obtain ⟨o2, _, _, g2, _⟩ := id d2
  exact d_write I (by rw [e]; exact True.intro) same ⟨o2, g2⟩ (ud_ok d2)
/-- {k: v for target in iter if ..} -/
def tDu (X : Cx) (wi : TI) (g : TG) (tt : TT) (tk tv : TE) (vs : List Nat) : TE := fun σ H Q => wi σ H fun J H1 => ∀ D, (D == sysModules) = false → H1 D = none → ∃ W : Nat → Nat → Hp → Prop, (∃ m, W 0 m (upd H1 D (UD X.prog X.w D []))) ∧ ∀ i m H, W i m H →
  (J.stop i H ∧ Q (.ref D) H) ∨ (J.go i H ∧ ∃ Nx : Hp → Prop, (∀ H', Nx H' → ∃ m', m' < m ∧ W (i + 1) m' H') ∧ ∀ x H', J.yld i H x H' → g x (wipe σ vs) H' fun σ2 H2 => wipe σ2 vs = wipe σ vs ∧ tt σ2 H2 fun c H3 =>
    if c = true then tk σ2 H3 fun y H4 => tv σ2 H4 fun z H5 => ∃ xs ks b, y = .ref b ∧ H5 D = some (UD X.prog X.w D xs) ∧ (∀ x ∈ xs, KeyV X.K H5 x.1 x.2.1) ∧ KeyV X.K H5 ks b ∧ xs.length ≤ sizeLine ∧ ∀ u, RelV z u → Nx (upd H5 D (UD X.prog X.w D (storedH xs ks b u))) else Nx H3)
theorem udc_core {Q : VK} {kx vx tg iter : Expr} {ifs : List Expr} {scope : Scope} {own : List (Str × Nat)} {pos pos' : Pos} {wi : TI} {g : TG} {tt : TT} {tk tv : TE} {use : Option (Value → Sem Unit)} {Qf : Value → Shared → Prop} (hu : X.A.units < cLine) (calm : X.calm = true) (nd : X.N.Nodup) (I : Inv X pins σ H s) (hi : PI X tg iter wi) (bk : BlkOk X.N X.env.scope scope own)
    (hg : ∀ (s : Shared) (H : Hp) (C : Addr) (cl : List (Str × Addr)) (fp : List Addr), PG (X.blk s H scope (compEnvC scope cl C X.env) fp) tg g) (hts : ∀ (s : Shared) (H : Hp) (C : Addr) (cl : List (Str × Addr)) (fp : List Addr), PTs (X.blk s H scope (compEnvC scope cl C X.env) fp) ifs tt)
    (hks : ∀ (s : Shared) (H : Hp) (C : Addr) (cl : List (Str × Addr)) (fp : List Addr), PE (X.blk s H scope (compEnvC scope cl C X.env) fp) kx tk) (hvs : ∀ (s : Shared) (H : Hp) (C : Addr) (cl : List (Str × Addr)) (fp : List Addr), PE (X.blk s H scope (compEnvC scope cl C X.env) fp) vx tv)
    (fold : ∀ x, foldedSetIterable iter X.env x = pure x) (h : tDu X wi g tt tk tv (own.map (·.2)) σ H Q)
    (out : ∀ D C s' m H', Inv X pins σ H' s' → Q (.ref D) H' → s'.heap.Ns C m → FpOk X pins H' C → compPost (model X.prog X.w) X.A X.xe use Qf (.ref D) C (.ok .next) s') :
    wpAny (model X.prog X.w) X.A (comprehension (.DictComp kx vx [⟨tg, iter, ifs, 0⟩] scope pos) scope X.env pos' newDict false (eval iter X.env) use) Qf X.xe s := by
  have captured : ∀ y ∈ scope.names, y.2 = .free → ∃ c, X.env.cells.lookup y.1 = some c := fun y hy z => (bk.free y hy z).elim (fun q => I.ok.has _ (.inl q)) fun q => I.ok.has _ (.inr q)
  refine wpAny_comprehension_free (use := use) rfl fold (closure_ok captured) bk.kind (fun y hy z => by rw [bk.uniq y hy, z]) ?_
  refine thn (hi.run pins s σ H _ I h) fun xv sA hx => ?_
  refine thn hx fun itv sB hB => ?_
  obtain ⟨it, fp, tn, J, hA, ez, IA, T, stA, fA, q⟩ := hB
  subst ez
  refine wpAny_newObj_type (newEnv_comp ?_)
  generalize eD : sB.heap.objs.size = D
  have dNew : hA D = none := IA.hok.fresh (Nat.le_of_eq eD)
  have notSys : (D == sysModules) = false := by
    rw [← eD]; exact beq_false_of_ne (Nat.ne_of_gt IA.big)
  obtain ⟨W, ⟨m0, w0⟩, turn⟩ := q D notSys dNew
  generalize eC : ({ sB with heap := sB.heap.push { cls := .type "dict", data := .dict #[] } } : Shared) = sC
  have IC : Inv X pins σ (upd hA D (UD X.prog X.w D [])) sC := by
    subst eC eD
    exact IA.laid (t' := sB.toks) (fun b o z => Heap.get?_push_of_some _ z) (Nat.le_refl _) (ud_new sB.heap)
  have hpC : sC.heap = sB.heap.push { cls := .type "dict", data := .dict #[] } := by rw [← eC]
  have fpC : ∀ b ∈ fp, FpOk X pins (upd hA D (UD X.prog X.w D [])) b ∧ b < sC.heap.objs.size := fun b hb => by
    obtain ⟨ob, z, _⟩ := T.obj _ _ stA b hb
    have lt0 : b < sB.heap.objs.size := Heap.lt_size z
    have neD : b ≠ D := by rw [← eD]; exact Nat.ne_of_lt lt0
    exact ⟨⟨(upd_ne neD).trans (fA b hb).1, (fA b hb).2⟩, by rw [hpC, Heap.size_push]; exact Nat.lt_succ_of_lt lt0⟩
  have stC : tn 0 sC.heap := T.keep _ _ _ stA fun b _ o z => by rw [hpC]; exact Heap.get?_push_of_some _ z
  have IB := block_start IC bk nd fpC
  have noFp : ∀ b ∈ fp, (upd hA D (UD X.prog X.w D [])) b = none := fun b hb => (fpC b hb).1.1
  have gP := hg sC (upd hA D (UD X.prog X.w D [])) sC.heap.objs.size (cellsFrom (sC.heap.objs.size + 1) scope.names (cloFrom X.env.cells scope.names [])) fp
  have tP := hts sC (upd hA D (UD X.prog X.w D [])) sC.heap.objs.size (cellsFrom (sC.heap.objs.size + 1) scope.names (cloFrom X.env.cells scope.names [])) fp
  have kP := hks sC (upd hA D (UD X.prog X.w D [])) sC.heap.objs.size (cellsFrom (sC.heap.objs.size + 1) scope.names (cloFrom X.env.cells scope.names [])) fp
  have vP := hvs sC (upd hA D (UD X.prog X.w D [])) sC.heap.objs.size (cellsFrom (sC.heap.objs.size + 1) scope.names (cloFrom X.env.cells scope.names [])) fp
  show codeAny _ _ (.compStart (.DictComp kx vx [⟨tg, iter, ifs, 0⟩] scope pos) 0 (.ref it) (.ref D) (compEnvC scope (cellsFrom (sC.heap.objs.size + 1) scope.names (cloFrom X.env.cells scope.names [])) sC.heap.objs.size X.env))
    (compPost (model X.prog X.w) X.A X.xe use Qf (.ref D) sC.heap.objs.size) { sC with heap := pushCells (sC.heap.push { cls := .type "dict", data := .dict #[] }) scope.names }
  generalize eE : compEnvC scope (cellsFrom (sC.heap.objs.size + 1) scope.names (cloFrom X.env.cells scope.names [])) sC.heap.objs.size X.env = en at IB gP tP kP vP ⊢
  have locE : en.locals = sC.heap.objs.size := by rw [← eE]; rfl
  generalize eH : upd hA D (UD X.prog X.w D []) = hC at IC IB gP tP kP vP w0 noFp fpC
  generalize eS : ({ sC with heap := pushCells (sC.heap.push { cls := .type "dict", data := .dict #[] }) scope.names } : Shared) = sD at IB ⊢
  have stD : tn 0 sD.heap := T.keep _ _ _ stC fun b _ o z => by rw [← eS]; exact pushCells_keeps _ _ _ _ (Heap.get?_push_of_some _ z)
  let XB : Cx := X.blk sC hC scope en fp
  have still : ∀ {τ : L2.St} {h1 : Hp} {s1 : Shared}, Inv XB [] τ h1 s1 → (∀ b ∈ fp, h1 b = none) → ∀ b ∈ fp, FpOk XB [] h1 b := fun {τ h1 s1} J1 no b hb =>
    ⟨no b hb, (J1.ok.exf b hb).1, J1.ok.exfs b hb, .inl hb, fun x c z => (J1.ok.exf b hb).2 x c z, fun p hp => absurd (show p ∈ ([] : List (Addr × Obj)) ++ [] from hp) (by simp)⟩
  have loop : codeAny (model X.prog X.w) X.A (.compLoop (.DictComp kx vx [⟨tg, iter, ifs, 0⟩] scope pos) 0 (.ref it) (.ref D) en) (compPost (model X.prog X.w) X.A X.xe use Qf (.ref D) sC.heap.objs.size) sD := by
    refine compLoop_anyD (fun n s1 => ∃ i h1, Inv XB [] (wipe σ (own.map (·.2))) h1 s1 ∧ tn i s1.heap ∧ (∀ b ∈ fp, h1 b = none) ∧ W i n h1) ?_ m0 ⟨0, hC, IB, stD, noFp, w0⟩
    rintro n s1 ⟨i, h1, I1, st1, no1, w1⟩
    rcases turn i n h1 w1 with ⟨stop, done⟩ | ⟨go, Nx, step, body⟩
    · refine thnF (T.done XB rfl rfl rfl calm i [] s1 _ h1 (fun _ _ => False) I1 (still I1 no1) st1 stop) fun r s2 ⟨er, I2⟩ => ?_
      subst er
      have back : Inv X pins σ h1 s2 := IC.call' (ch := fp) I2.os I2.base I2.hok I2.bare fun b hb => ⟨(fpC b hb).1.2.2.2.1, (fpC b hb).1.2.1, (fpC b hb).1.2.2.2.2.1, (fpC b hb).1.2.2.2.2.2⟩
      obtain ⟨m, nsm, _⟩ := I2.loc
      have nsm' : s2.heap.Ns sC.heap.objs.size m := by rw [← locE]; exact nsm
      have freeC : h1 sC.heap.objs.size = none := by rw [← locE]; exact I2.free
      exact out D sC.heap.objs.size s2 m h1 back done nsm' (IC.fpOk (Nat.le_refl _) freeC)
    · refine thnF (T.item XB rfl rfl rfl calm i [] s1 _ h1 (fun _ _ => False) I1 (still I1 no1) st1 go) fun r s2 ⟨u, er, h2⟩ => ?_
      subst er
      refine thnF h2 fun _ s3 ⟨x, h3, I3, r3, y3, st3, no3⟩ => ?_
      have I3p := I3.pinned (still I3 no3) (T.obj _ _ st3)
      refine thnF (gP.run _ s3 _ h3 x u _ I3p r3 (body x h3 y3)) fun _ s4 ⟨σ4, h4, I4, wp4, q4⟩ => ?_
      refine thnF (tP.run _ s4 σ4 h4 _ I4 q4) fun c s5 ⟨h5, I5, q5⟩ => ?_
      have close : ∀ {s9 : Shared} {h9 : Hp}, Inv XB ([] ++ pinsAt fp s3.heap) σ4 h9 s9 → Nx h9 → ∃ m, m < n ∧ ∃ i h1, Inv XB [] (wipe σ (own.map (·.2))) h1 s9 ∧ tn i s9.heap ∧ (∀ b ∈ fp, h1 b = none) ∧ W i m h1 := fun {s9 h9} I9 nx => by
        obtain ⟨m', less, w9⟩ := step h9 nx
        have pin9 : ∀ b ∈ fp, ∀ o, s3.heap.get? b = some o → s9.heap.get? b = some o ∧ h9 b = none := fun b hb o z => by
          have zz := I9.pin (b, o) (List.mem_append_right _ (List.mem_append_right _ (mem_pinsAt hb z)))
          exact ⟨zz.1, zz.2.1⟩
        have len4 : (wipe σ (own.map (·.2))).length = σ4.length := by rw [← wp4, wipe_length]
        refine ⟨m', less, i + 1, h9, (I9.unpinned (pins := [])).weak len4 fun j v z => ?_, T.keep _ _ _ st3 fun b hb o z => (pin9 b hb o z).1, fun b hb => ?_, w9⟩
        · rw [← wp4] at z; exact (wipe_some z).1
        · obtain ⟨o, z, _⟩ := T.obj _ _ st3 b hb
          exact (pin9 b hb o z).2
      cases c with
      | false => simp only [Bool.false_eq_true, if_false] at q5 ⊢; exact close I5 q5
      | true =>
        simp only [if_true] at q5 ⊢
        refine thnF (kP.run _ s5 σ4 h5 _ I5 q5) fun ku s6 ⟨yk, h6, I6, r6, q6⟩ => ?_
        refine thnF (vP.run _ s6 σ4 h6 _ I6 q6) fun vu s7 ⟨yv, h7, I7, r7, xs, ks, b, eb, hD, hkv, kb, hz, nx⟩ => ?_
        subst eb
        rw [(show ku = Value.ref b from r6)]
        exact ud_put (X := XB) I7 hu hD hkv kb hz fun s8 I8 => close I8 (nx vu r7)
  exact codeAny_compStart_dict loop (T.self X.A 0 _ _ _ stD loop)
theorem pe_du {kx vx tg iter : Expr} {ifs : List Expr} {scope : Scope} {own : List (Str × Nat)} {pos : Pos} {wi : TI} {g : TG} {tt : TT} {tk tv : TE} (hu : X.A.units < cLine) (calm : X.calm = true) (nd : X.N.Nodup) (hi : PI X tg iter wi) (bk : BlkOk X.N X.env.scope scope own)
    (hg : ∀ (s : Shared) (H : Hp) (C : Addr) (cl : List (Str × Addr)) (fp : List Addr), PG (X.blk s H scope (compEnvC scope cl C X.env) fp) tg g) (hts : ∀ (s : Shared) (H : Hp) (C : Addr) (cl : List (Str × Addr)) (fp : List Addr), PTs (X.blk s H scope (compEnvC scope cl C X.env) fp) ifs tt)
    (hks : ∀ (s : Shared) (H : Hp) (C : Addr) (cl : List (Str × Addr)) (fp : List Addr), PE (X.blk s H scope (compEnvC scope cl C X.env) fp) kx tk) (hvs : ∀ (s : Shared) (H : Hp) (C : Addr) (cl : List (Str × Addr)) (fp : List Addr), PE (X.blk s H scope (compEnvC scope cl C X.env) fp) vx tv)
    (fold : ∀ x, foldedSetIterable iter X.env x = pure x := by intro _; rfl) : PE X (.DictComp kx vx [⟨tg, iter, ifs, 0⟩] scope pos) (tDu X wi g tt tk tv (own.map (·.2))) := ⟨fun pins s σ H Q I h => by
  rw [arm_eval_DictComp]
  refine udc_core hu calm nd I hi bk hg hts hks hvs fold h fun D C s' m H' I' q nsm ⟨f0, f1, f2, f3, f4, f5⟩ => ⟨m, nsm, fun h2 same => ?_⟩
  exact ⟨.ref D, H', I'.turned (t' := s'.toks) (fun b o hb z => (same.2 b hb).trans z) f0 f1 f3 f4 f5, rfl, q⟩⟩
end
end MX

end

section
/-! Readings of dicts whose keys are rows. -/
namespace MX
open PySem PySem.Spec PyProof.Rows L2

def sameK (k : PV) (p : PV × PV) : Bool := decide (ukey p.1 = ukey k)
def putU (kvs : List (PV × PV)) (k v : PV) : List (PV × PV) := if kvs.any (sameK k) = true then kvs.map (fun p => if sameK k p = true then (p.1, v) else p) else kvs ++ [(k, v)]
def valU (kvs : List (PV × PV)) (k : PV) : Option PV := (kvs.find? (sameK k)).map (·.2)
section
variable {K : PySem.W.Frag} {mg : MP} {g : Gh} {S : Sto} {H : Hp}
theorem atoms_rep : ∀ {xs : List PV} {vs : List V} {ks : List Key}, RepVs K g xs vs → atomsK xs = some ks → Paired AtomV vs ks
  | [], _, _, r, h => by cases (show _ = [] from r); cases h; exact .nil
  | x :: xs, _, ks, r, h => by
    obtain ⟨v, t, e, r1, r2⟩ := r
    subst e
    unfold atomsK at h
    cases hx : atomK x with
    | none => rw [hx] at h; cases h
    | some k =>
      rw [hx] at h
      simp only [Option.map_eq_some_iff] at h
      obtain ⟨kr, h1, h2⟩ := h
      subst h2
      refine .cons ?_ (atoms_rep r2 h1)
      cases x with
      | int i => cases hx; rw [(show v = V.int i from r1)]; rfl
      | bl b => cases hx; rw [(show v = V.bl b from r1)]; rfl
      | str z => cases hx; rw [(show v = V.str z from r1)]; rfl
      | _ => cases hx
theorem key_rep (hS : RepS K mg g S H) {k : PV} {ks : List Key} {v : V} (r : RepV K g k v) (h : ukey k = some ks) : ∃ b, v = .ref b ∧ KeyV K H ks b := by
  cases k with
  | tup xs =>
    obtain ⟨b, vs, e, h1, h2⟩ := r
    exact ⟨b, e, vs, SqT.mono hS.fz h1, atoms_rep h2 h⟩
  | _ => cases h
theorem RepU.keys (hS : RepS K mg g S H) : ∀ {kvs : List (PV × PV)} {xs : List (List Key × Addr × Value)}, RepU K g kvs xs → ∀ x ∈ xs, KeyV K H x.1 x.2.1
  | _, _, .nil, x, hx => by cases hx
  | _, _, .cons ⟨q1, q2, _⟩ t, x, hx => by
    rcases List.mem_cons.mp hx with rfl | hx
    · obtain ⟨b, e, k⟩ := key_rep hS q2 q1
      cases e; exact k
    · exact RepU.keys hS t x hx
theorem RepU.length {kvs : List (PV × PV)} {xs : List (List Key × Addr × Value)} (r : RepU K g kvs xs) : kvs.length = xs.length := Paired.length r
theorem RepU.find {k : PV} {ks : List Key} (hk : ukey k = some ks) : ∀ {kvs : List (PV × PV)} {xs : List (List Key × Addr × Value)}, RepU K g kvs xs →
    match kvs.find? (sameK k), atKey xs ks with
    | some p, some q => ∃ v, RelV v q.2 ∧ RepV K g p.2 v
    | none, none => True
    | _, _ => False
  | _, _, .nil => by simp [atKey]
  | p :: kvs, q :: xs, .cons ⟨q1, q2, v, q3, q4⟩ t => by
    have ih := RepU.find hk t
    unfold atKey at ih ⊢
    simp only [List.find?_cons, sameK, q1, hk]
    by_cases e : q.1 = ks
    · simp only [e, decide_true]
      exact ⟨v, q3, q4⟩
    · have e' : ¬ (some q.1 = some ks) := fun z => e (Option.some.inj z)
      simp only [e, e', decide_false]
      exact ih
theorem RepU.any {k : PV} {ks : List Key} (hk : ukey k = some ks) : ∀ {kvs : List (PV × PV)} {xs : List (List Key × Addr × Value)}, RepU K g kvs xs → (atKey xs ks).isSome = kvs.any (sameK k)
  | _, _, .nil => rfl
  | p :: kvs, q :: xs, .cons ⟨q1, q2, _⟩ t => by
    have ih := RepU.any hk t
    unfold atKey at ih ⊢
    simp only [List.find?_cons, List.any_cons, sameK, q1, hk]
    by_cases e : q.1 = ks
    · simp [e]
    · have e' : ¬ (some q.1 = some ks) := fun z => e (Option.some.inj z)
      simp only [e, e', decide_false, Bool.false_or]
      exact ih
theorem RepU.put {k v : PV} {ks : List Key} {b : Addr} {z : V} {u : Value} {kvs : List (PV × PV)} {xs : List (List Key × Addr × Value)} (r : RepU K g kvs xs) (hk : ukey k = some ks) (rk : RepV K g k (.ref b)) (rz : RelV z u) (rv : RepV K g v z) :
    RepU K g (putU kvs k v) (storedH xs ks b u) := by
  unfold putU storedH
  rw [RepU.any hk r]
  by_cases h : kvs.any (sameK k) = true
  · rw [if_pos h, if_pos h]
    clear h
    induction r with
    | nil => exact .nil
    | @cons p q ps qs hq t ih =>
      obtain ⟨q1, q2, w, q3, q4⟩ := hq
      refine .cons ?_ ih
      unfold putAt sameK
      dsimp only
      simp only [q1, hk]
      by_cases e : q.1 = ks
      · simp only [e, decide_true, if_true]
        exact ⟨by rw [q1, e], q2, z, rz, rv⟩
      · have e' : ¬ (some q.1 = some ks) := fun z => e (Option.some.inj z)
        simp only [e, e', decide_false, Bool.false_eq_true, if_false]
        exact ⟨q1, q2, w, q3, q4⟩
  · rw [if_neg h, if_neg h]
    exact Paired.snoc r ⟨hk, rk, z, rz, rv⟩
theorem putU_len (kvs : List (PV × PV)) (k v : PV) : (putU kvs k v).length ≤ kvs.length + 1 := by
  unfold putU
  split <;> simp
end
/-! ### {k: v for target in iter if ..} -/
def duL (sp : Sl) (t : Sg) (c : St') (tk tv : Sx) : List PV → List (PV × PV) → Sto → Out (List (PV × PV))
  | [], acc, S => .ok acc S
  | x :: xs, acc, S => match t x sp S with
    | none => .stuck
    | some sp1 => (c sp1 S).pure fun k S1 => if k = true then (tk sp1 S1).pure fun y S2 => (tv sp1 S2).pure fun z S3 => if (ukey y).isSome = true ∧ acc.length < sizeLine then duL sp t c tk tv xs (putU acc y z) S3 else .stuck
      else duL sp t c tk tv xs acc S1
def sxDu (ti : Si) (vs : List Nat) (t : Sg) (c : St') (tk tv : Sx) : Sx := fun sp S => (ti sp S).bind fun src S1 => match src with
  | .items xs => (duL (wipeP sp vs) t c tk tv xs [] S1).pure fun kvs S2 => .ok (.ref S2.length) (S2 ++ [.dcu kvs])
  | _ => .stuck
section
variable {X : Cx} {kx vx tg iter : Expr} {ifs : List Expr} {scope : Scope} {own : List (Str × Nat)} {pos : Pos} {ti : Si} {t : Sg} {is : List Nat} {tc : St'} {tk tv : Sx}
theorem rdDu (hv : ∀ i ∈ is, i ∈ own.map (·.2)) {σ : L2.St} {H : Hp} {Q : VK} (h : rdE X (sxDu ti (own.map (·.2)) t tc tk tv) σ H Q) : tDu X (rdI X ti) (rdG X is t) (rdT0 X tc) (rdE0 X tk) (rdE0 X tv) (own.map (·.2)) σ H Q := by
  obtain ⟨g, sp, S, hS, hE, p⟩ := h
  refine ⟨g, sp, S, hS, hE, (Post.seq (R := JOk X) p).imp (fun _ _ x => x) fun J H1 ⟨src, g1, S1, l1, q1, jo, p1⟩ => ?_⟩
  intro D hsys hD
  cases src with
  | items all =>
    simp only at p1
    obtain ⟨vs, hvs⟩ : ∃ vs : List Nat, vs = own.map (·.2) := ⟨_, rfl⟩
    rw [← hvs] at p1 hv ⊢
    have hE1 := (hE.mono l1).wipe vs
    have D0 : g1.rs D = none := by
      cases e : g1.rs D with
      | none => rfl
      | some u => rw [(q1.rs D u e).1] at hD; cases hD
    cases hl0 : duL (wipeP sp vs) t tc tk tv all [] S1 with
    | exc x S' => rw [hl0] at p1; exact p1.elim
    | stuck => rw [hl0] at p1; exact p1.elim
    | ok kvs S3 =>
      rw [hl0] at p1
      simp only [Out.pure] at p1
      -- D's address is no number that is kept for the sys module: it is shown by the dict's own cell below
      refine ⟨fun i m H => m = all.length - i ∧ ∃ g2 S2 acc xs, g1.lv g2 ∧ (∃ r, g2.rs = upd r D (UD X.prog X.w D xs) ∧ r = g1.rs) ∧ g2.tb = g1.tb ∧ RepS X.K X.mp g2 S2 H ∧ RepU X.K g2 acc xs ∧ duL (wipeP sp vs) t tc tk tv (all.drop i) acc S2 = .ok kvs S3 ∧ acc.length ≤ sizeLine, ?_, ?_⟩
      · exact ⟨all.length, by omega, { g1 with rs := upd g1.rs D (UD X.prog X.w D []) }, S1, [], [], ⟨fun _ _ e => e, fun _ _ e => e⟩, ⟨_, rfl, rfl⟩, rfl, q1.reserve hD, .nil, by rw [List.drop_zero]; exact hl0, Nat.zero_le _⟩
      · rintro i m H2 ⟨em, g2, S2, acc, xs, l2, ⟨r, hr, hr1⟩, htb, q2, racc, hl, hz⟩
        subst hr1
        have gD : g2.rs D = some (UD X.prog X.w D xs) := by rw [hr, upd_same]
        have h0 : ∀ a u, g1.rs a = some u → a ≠ D ∧ g2.rs a = some u := fun a u e => by
          have ha : a ≠ D := fun z => by rw [z, D0] at e; cases e
          exact ⟨ha, by rw [hr, upd_ne ha]; exact e⟩
        obtain ⟨jst, jgo⟩ := jo i H2 g2 S2 all l2 q2 rfl
        cases hx : all[i]? with
        | none =>
          have hi := List.getElem?_eq_none_iff.mp hx
          refine .inl ⟨jst hi, ?_⟩
          rw [List.drop_eq_nil_of_le hi] at hl
          have hl' : Out.ok acc S2 = Out.ok kvs S3 := hl
          injection hl' with ha hs
          subst ha hs
          obtain ⟨w1, w2⟩ := q2.letIn gD h0 (so := .dcu acc) ⟨xs, (q2.rs D _ gD).1, hsys, racc⟩
          refine p1 (.ref D) H2 ⟨g2.fz, g2.m ++ [D], g1.rs, g2.tb⟩ ⟨fun a o e => w2.fz a o (l2.fz a o e), fun j a e => w2.m j a (l2.m j a e), rfl, htb⟩ w1 ⟨D, rfl, ?_⟩
          show (g2.m ++ [D])[S2.length]? = some D
          rw [← q2.len]; simp
        | some x =>
          have hi := (List.getElem?_eq_some_iff.mp hx).1
          have hd : all.drop i = x :: all.drop (i + 1) := by
            rw [List.drop_eq_getElem_cons hi]
            congr 1
            exact (List.getElem?_eq_some_iff.mp hx).2
          rw [hd] at hl
          simp only [duL] at hl
          obtain ⟨go, yl⟩ := jgo x hx
          refine .inr ⟨go, _, fun H' n => ⟨m - 1, by omega, n⟩, fun v H' y => ?_⟩
          obtain ⟨g3, l3, q3, r3⟩ := yl v H' y
          cases ht : t x (wipeP sp vs) S2 with
          | none => rw [ht] at hl; cases hl
          | some sp1 =>
            rw [ht] at hl
            simp only at hl
            have E3 : RepE X.K g3 (wipeP sp vs) (wipe σ vs) := (hE1.monoV l2).mono l3
            refine ⟨g3, wipeP sp vs, S2, x, sp1, q3, E3, r3, ht, fun σ4 g4 l4 q4 e4 near => ⟨wipe_near near hv, g4, sp1, S2, q4, e4, ?_⟩⟩
            obtain ⟨k, S5, hk, hl2⟩ := Out.pure_ok hl (by intro z; cases z)
            rw [hk]
            intro b H5 g5 l5 q5 eb
            subst eb
            have l25 : g2.le g5 := (l3.trans l4).trans l5
            cases k with
            | false =>
              simp only [Bool.false_eq_true, if_false] at hl2 ⊢
              exact ⟨by omega, g5, S5, acc, xs, l2.trans l25.lv, ⟨_, l25.rs.trans hr, rfl⟩, l25.tb.trans htb, q5, RepU.monoV l25.lv racc, hl2, hz⟩
            | true =>
              simp only [if_true] at hl2 ⊢
              obtain ⟨y', S6, hy, hl3⟩ := Out.pure_ok hl2 (by intro z; cases z)
              obtain ⟨z', S7, hz7, hl4⟩ := Out.pure_ok hl3 (by intro z; cases z)
              by_cases hc : (ukey y').isSome = true ∧ acc.length < sizeLine
              · rw [if_pos hc] at hl4
                refine ⟨g5, sp1, S5, q5, e4.mono l5, ?_⟩
                rw [hy]
                intro w H6 g6 l6 q6 r6
                refine ⟨g6, sp1, S6, q6, (e4.mono l5).mono l6, ?_⟩
                rw [hz7]
                intro u H7 g7 l7 q7 r7
                have l27 : g2.le g7 := (l25.trans l6).trans l7
                have rs7 : g7.rs = upd g1.rs D (UD X.prog X.w D xs) := l27.rs.trans hr
                have gD7 : g7.rs D = some (UD X.prog X.w D xs) := by rw [rs7, upd_same]
                obtain ⟨ks, hks⟩ := Option.isSome_iff_exists.mp hc.1
                have rk := RepV.mono l7 _ _ r6
                obtain ⟨bk, ebk, kv⟩ := key_rep q7 rk hks
                subst ebk
                have racc7 := RepU.monoV l27.lv racc
                refine ⟨xs, ks, bk, rfl, (q7.rs D _ gD7).1, RepU.keys q7 racc7, kv, by rw [← RepU.length racc7]; omega, fun uu ruu => ?_⟩
                have q8 := q7.rekeep (o' := UD X.prog X.w D (storedH xs ks bk uu)) gD7 noTab_UD
                have lv8 : g7.lv { g7 with rs := upd g7.rs D (UD X.prog X.w D (storedH xs ks bk uu)) } := ⟨fun _ _ e => e, fun _ _ e => e⟩
                exact ⟨by omega, { g7 with rs := upd g7.rs D (UD X.prog X.w D (storedH xs ks bk uu)) }, S7, putU acc y' z', storedH xs ks bk uu, (l2.trans l27.lv).trans lv8, ⟨g1.rs, by show upd g7.rs D _ = _; rw [rs7, upd_upd], rfl⟩, l27.tb.trans htb, q8, RepU.monoV lv8 (racc7.put hks rk ruu r7), hl4, by have := putU_len acc y' z'; omega⟩
              · rw [if_neg hc] at hl4; cases hl4
  | _ => exact p1.elim
theorem se_du (own : List (Str × Nat)) (hu : X.A.units < cLine) (calm : X.calm = true) (nd : X.N.Nodup) (hi : PI X tg iter (rdI X ti)) (bk : BlkOk X.N X.env.scope scope own)
    (hg : ∀ (s : Shared) (H : Hp) (C : Addr) (cl : List (Str × Addr)) (fp : List Addr), PG (X.blk s H scope (compEnvC scope cl C X.env) fp) tg (rdG X is t)) (hts : ∀ (s : Shared) (H : Hp) (C : Addr) (cl : List (Str × Addr)) (fp : List Addr), PTs (X.blk s H scope (compEnvC scope cl C X.env) fp) ifs (rdT0 X tc))
    (hks : ∀ (s : Shared) (H : Hp) (C : Addr) (cl : List (Str × Addr)) (fp : List Addr), PE (X.blk s H scope (compEnvC scope cl C X.env) fp) kx (rdE0 X tk)) (hvs : ∀ (s : Shared) (H : Hp) (C : Addr) (cl : List (Str × Addr)) (fp : List Addr), PE (X.blk s H scope (compEnvC scope cl C X.env) fp) vx (rdE0 X tv))
    (hv : ∀ i ∈ is, i ∈ own.map (·.2) := by decide) (fold : ∀ x, foldedSetIterable iter X.env x = pure x := by intro _; rfl) : PE X (.DictComp kx vx [⟨tg, iter, ifs, 0⟩] scope pos) (rdE X (sxDu ti (own.map (·.2)) t tc tk tv)) :=
  (pe_du hu calm nd hi bk hg hts hks hvs fold).imp fun _ _ _ h => rdDu hv h
end
section
variable {X : Cx}
/-! ### list(d) -/
def vListU : VN := fun as S => match as with
  | [.ref n] => match S[n]? with
    | some (.dcu kvs) => if kvs.length ≤ sizeLine then some (.lst (kvs.map (·.1)), S) else none
    | _ => vList [.ref n] S
  | as => vList as S
theorem keys_rep {K : PySem.W.Frag} {g : Gh} : ∀ {kvs : List (PV × PV)} {xs : List (List Key × Addr × Value)}, RepU K g kvs xs → RepVs K g (kvs.map (·.1)) (xs.map fun x => V.ref x.2.1)
  | _, _, .nil => .nil
  | _, _, .cons ⟨_, q, _⟩ t => .cons q (keys_rep t)
theorem vals_of_keys : ∀ xs : List (List Key × Addr × Value), Vals (xs.map fun x => V.ref x.2.1) (xs.map fun x => Value.ref x.2.1)
  | [] => .nil
  | _ :: r => .cons rfl (vals_of_keys r)
theorem cl_listU (hc : X.calm = true) : CallN X (.type "list") vListU := by
  intro pins s σ H xs us Q I r ⟨g, S, as, hS, rr, p⟩
  have old : PostO X g (RepV X.K) (vList as S) Q → wpAny (model X.prog X.w) X.A (call (.type "list") us) (EP X pins σ Q) X.xe s := fun p => cl_list pins s σ H xs us Q I r ⟨g, S, as, hS, rr, p⟩
  unfold vListU at p
  split at p
  · rename_i n
    split at p
    · rename_i kvs e
      split at p
      · rename_i hz
        obtain ⟨x, rfl, d, rfl, em⟩ := rr.one
        obtain ⟨ks, eH, lo, ru⟩ := hS.ob n _ d e em
        rw [Vals.ref1 r]
        obtain ⟨⟨o, es, ep, ho, hx, hdt, he, hn⟩, _, _⟩ := I.hok d _ eH
        have l1 : es.size = ks.length := size_of_entries he
        have l2 := RepU.length ru
        refine PySem.W.kdl_call (kdl_raw lo hx hdt) (I.ok.hd hc) ho (by omega) fun h' tk acc' c' kp ee it => ?_
        have ea : acc'.toList = ks.map fun x => Value.ref x.2.1 := by
          have hl : acc'.toList.length = ks.length := by rw [Array.length_toList, it.1]; exact l1
          refine List.ext_getElem? fun j => ?_
          rw [List.getElem?_map]
          cases hj : acc'.toList[j]? with
          | none =>
            rw [List.getElem?_eq_none (by have := List.getElem?_eq_none_iff.mp hj; omega)]; rfl
          | some v =>
            obtain ⟨en, hen, hv⟩ := it.2 j v (by rw [← Array.getElem?_toList]; exact hj)
            have qe := entry_at he j
            rw [hen] at qe
            cases hb : ks[j]? with
            | none => rw [hb] at qe; cases qe
            | some b =>
              rw [hb] at qe
              rw [hv, Option.some.inj qe]; rfl
        have rv : Vals (ks.map fun x => V.ref x.2.1) acc'.toList := by rw [ea]; exact vals_of_keys ks
        refine ⟨.ref s.heap.objs.size, _, I.laid (t' := tk) (o := .lst (ks.map fun x => V.ref x.2.1)) kp (Nat.le_refl _) ?_, rfl, p.lst hS (keys_rep ru) _ (I.hok.fresh (Nat.le_refl _))⟩
        exact ⟨by rw [List.length_map]; omega, acc'.toList, c', rv, by rw [Array.toArray_toList]; exact ee⟩
      · exact p.elim
    · exact old p
  · exact old p
/-! ### k in d -/
def udOf (S : Sto) : PV → Option (List (PV × PV))
  | .ref n => match S[n]? with
    | some (.dcu kvs) => some kvs
    | _ => none
  | _ => none
def vInU : V2 := fun a b S => match udOf S b with
  | some kvs => if (ukey a).isSome = true then some (.bl (kvs.any (sameK a)), S) else none
  | none => vIn a b S
def vNotInU : V2 := fun a b S => match udOf S b with
  | some kvs => if (ukey a).isSome = true then some (.bl (!kvs.any (sameK a)), S) else none
  | none => vNotIn a b S
theorem udOf_ref {S : Sto} {b : PV} {kvs : List (PV × PV)} (h : udOf S b = some kvs) : ∃ n, b = .ref n ∧ S[n]? = some (.dcu kvs) := by
  cases b with
  | ref n =>
    refine ⟨n, rfl, ?_⟩
    cases hn : S[n]? with
    | none => simp [udOf, hn] at h
    | some o => cases o <;> simp_all [udOf]
  | _ => cases h
theorem op_inU (hu : X.A.units + 65 < cLine) : Op2 X (compareOp .In) vInU := by
  intro pins s σ H x y v u Q I rx ry ⟨g, S, a, b, hS, r1, r2, p⟩
  unfold vInU at p
  cases hb : udOf S b with
  | none => rw [hb] at p; exact op_in' hu pins s σ H x y v u Q I rx ry ⟨g, S, a, b, hS, r1, r2, p⟩
  | some kvs =>
    rw [hb] at p
    simp only at p
    by_cases hk : (ukey a).isSome = true
    · rw [if_pos hk] at p
      obtain ⟨ks, hks⟩ := Option.isSome_iff_exists.mp hk
      obtain ⟨n, rfl, e⟩ := udOf_ref hb
      obtain ⟨d, rfl, em⟩ := r2
      obtain ⟨xs, eH, lo, ru⟩ := hS.ob n _ d e em
      obtain ⟨ka, rfl, kv⟩ := key_rep hS r1 hks
      rw [(show v = Value.ref ka from rx), (show u = Value.ref d from ry)]
      refine wpAny_in_heap (knd := tupleKind (uKind X.prog X.w)) (tupleKind_room_in1 (by omega)) (kv.is I) lo (ud_at I eH (RepU.keys hS ru)) ?_
      rw [RepU.any hks ru]
      exact ⟨.bl _, H, I.tok _, rfl, p.now hS rfl⟩
    · rw [if_neg hk] at p; exact p.elim
end
end MX

end

section
/-! An expression's own things are forgotten; not in, for keys. -/
namespace MX
open PySem PySem.Spec PyProof.Rows L2
section
variable {K : PySem.W.Frag} {mg : MP} {g g' : Gh} {S S' : Sto} {H H' : Hp}
mutual
theorem RepV.blw {g : Gh} : ∀ (x : PV) (v : V), RepV K g x v → below g.m.length x = true
  | .non, _, _ => rfl
  | .bl _, _, _ => rfl
  | .int _, _, _ => rfl
  | .str _, _, _ => rfl
  | .tup xs, _, ⟨_, _, _, _, r⟩ => RepVs.blw xs _ r
  | .lst xs, _, ⟨_, _, _, _, r⟩ => RepVs.blw xs _ r
  | .ref n, _, ⟨a, _, r⟩ => by
    have := (List.getElem?_eq_some_iff.mp r).1
    simpa [below] using this
theorem RepVs.blw {g : Gh} : ∀ (xs : List PV) (vs : List V), RepVs K g xs vs → belows g.m.length xs = true
  | [], _, _ => rfl
  | x :: xs, _, ⟨_, _, _, r, t⟩ => by
    simp only [belows, Bool.and_eq_true]
    exact ⟨RepV.blw x _ r, RepVs.blw xs _ t⟩
end
theorem paired_blw {α β : Type} {F : α → β → Prop} {p : α → Bool} : ∀ {l : List α} {m : List β}, Paired F l m → (∀ a b, F a b → p a = true) → l.all p = true
  | _, _, .nil, _ => rfl
  | _, _, .cons r t, h => by rw [List.all_cons, h _ _ r, paired_blw t h]; rfl
theorem RepO.blw {so : SO} {a : Addr} (r : RepO K mg g H so a) : belowO g.m.length so = true := by
  cases so with
  | lst xs => obtain ⟨_, _, q⟩ := r; exact RepVs.blw _ _ q
  | dct kvs => obtain ⟨_, _, q⟩ := r; exact paired_blw q fun _ _ z => RepV.blw _ _ z.2
  | dcu kvs =>
    obtain ⟨_, _, _, q⟩ := r
    refine paired_blw q fun _ _ z => ?_
    obtain ⟨_, z2, v, _, z3⟩ := z
    rw [Bool.and_eq_true]
    exact ⟨RepV.blw _ _ z2, RepV.blw _ _ z3⟩
  | ins c fs => obtain ⟨_, _, _, _, _, q⟩ := r; exact paired_blw q fun _ _ z => RepV.blw _ _ z.2
  | dead => rfl
theorem RepS.trim (h : RepS K mg g S H) (l : g.le g') (h' : RepS K mg g' S' H') (e : S'.take S.length = S) :
    ∃ g'', g.le g'' ∧ RepS K mg g'' S H' ∧ ∀ x v, below S.length x = true → RepV K g' x v → RepV K g'' x v := by
  refine ⟨⟨g'.fz, g'.m.take S.length, g'.rs, g'.tb⟩, ⟨l.fz, fun i a q => lt_take (l.m i a q) ?_, l.rs, l.tb⟩, ?_, fun x v b r => ?_⟩
  · have := (List.getElem?_eq_some_iff.mp q).1
    rw [h.len] at this; exact this
  · have f := h'.forget S.length (by
      rw [e]
      intro so hs
      obtain ⟨i, hi⟩ := List.getElem?_of_mem hs
      have hl := (List.getElem?_eq_some_iff.mp hi).1
      have hm : i < g.m.length := by rw [h.len]; exact hl
      have := RepO.blw (h.ob i so _ hi (List.getElem?_eq_getElem hm))
      rwa [h.len] at this)
    rwa [e] at f
  · exact RepV.cut (g := g') (g' := ⟨g'.fz, g'.m.take S.length, g'.rs, g'.tb⟩) (n := S.length) (fun _ _ e => e) (fun i a hi e => lt_take e hi) _ _ b r
end
open Classical in
/-- an expression of which the new things are let go -/
noncomputable def sxTrim (t : Sx) : Sx := fun sp S => match t sp S with
  | .ok v S' => if below S.length v = true ∧ S'.take S.length = S then .ok v S else .stuck
  | o => o
section
variable {X : Cx} {e : Expr} {t : Sx}
theorem se_trim (h : PE X e (rdE X t)) : PE X e (rdE X (sxTrim t)) := h.imp fun σ H Q ⟨g, sp, S, hS, hE, p⟩ => by
  refine ⟨g, sp, S, hS, hE, ?_⟩
  unfold sxTrim at p
  cases ho : t sp S with
  | ok v S' =>
    rw [ho] at p
    simp only at p
    intro b H' g' l q1 q2
    by_cases hc : below S.length v = true ∧ S'.take S.length = S
    · rw [if_pos hc] at p
      obtain ⟨g2, l2, r1, r2⟩ := hS.trim l q1 hc.2
      exact p b H' g2 l2 r1 (r2 v b hc.1 q2)
    · rw [if_neg hc] at p; exact p.elim
  | exc x S' => rw [ho] at p; exact p
  | stuck => rw [ho] at p; exact p
theorem op_notInU (hu : X.A.units + 65 < cLine) : Op2 X (compareOp .NotIn) vNotInU := by
  intro pins s σ H x y v u Q I rx ry ⟨g, S, a, b, hS, r1, r2, p⟩
  unfold vNotInU at p
  cases hb : udOf S b with
  | none => rw [hb] at p; exact op_notIn' hu pins s σ H x y v u Q I rx ry ⟨g, S, a, b, hS, r1, r2, p⟩
  | some kvs =>
    rw [hb] at p
    simp only at p
    by_cases hk : (ukey a).isSome = true
    · rw [if_pos hk] at p
      obtain ⟨ks, hks⟩ := Option.isSome_iff_exists.mp hk
      obtain ⟨n, rfl, e⟩ := udOf_ref hb
      obtain ⟨d, rfl, em⟩ := r2
      obtain ⟨xs, eH, lo, ru⟩ := hS.ob n _ d e em
      obtain ⟨ka, rfl, kv⟩ := key_rep hS r1 hks
      rw [(show v = Value.ref ka from rx), (show u = Value.ref d from ry)]
      refine wpAny_notIn_heap (knd := tupleKind (uKind X.prog X.w)) (tupleKind_room_in1 (by omega)) (kv.is I) lo (ud_at I eH (RepU.keys hS ru)) ?_
      rw [RepU.any hks ru]
      exact ⟨.bl _, H, I.tok _, rfl, p.now hS rfl⟩
    · rw [if_neg hk] at p; exact p.elim
end
end MX
namespace MX
open PySem PySem.Spec PyProof.Rows L2
theorem hu0 {k : Nat} {A : Around} (r : Room k A) : A.units < cLine := by have := r.un; omega
end MX
namespace MX
open PySem PySem.Spec PyProof.Rows L2
/-! texts of any length apart -/
def vNeS : V2 := fun a b S => match a, b with
  | .str x, .str y => some (.bl (!decide (x = y)), S)
  | a, b => vNe a b S
theorem op_neS {X : Cx} (hu : X.A.units + 64 < cLine) : Op2 X (compareOp .NotEq) vNeS := by
  intro pins s σ H x y v u Q I rx ry ⟨g, S, a, b, hS, r1, r2, p⟩
  unfold vNeS at p
  split at p
  · rename_i z w
    have e1 : x = V.str z := r1
    have e2 : y = V.str w := r2
    subst e1 e2
    refine op_ne pins s σ H _ _ v u Q I rx ry ⟨rfl, ?_⟩
    have e : decide (V.str z = V.str w) = decide (z = w) := decide_eq_decide.mpr ⟨fun q => by cases q; rfl, fun q => by rw [q]⟩
    first | rw [e] | (rw [show (V.str z != V.str w) = !decide (z = w) by rw [← e]; rfl])
    exact p.now hS rfl
  · exact op_ne' hu pins s σ H x y v u Q I rx ry ⟨g, S, _, _, hS, r1, r2, p⟩
end MX

end

section
/-! Typed readings: what an expression, a block gives over data of Lean. -/
namespace MX
open PySem PySem.Spec PyProof.Rows L2

def RR.bnd {α β : Type} (o : RR α) (f : α → RR β) : RR β := match o with
  | .ok a => f a
  | .exc x => .exc x
  | .stuck => .stuck
@[simp] theorem RR.bnd_ok {α β : Type} (a : α) (f : α → RR β) : RR.bnd (.ok a) f = f a := rfl
@[simp] theorem RR.bnd_exc {α β : Type} (x : EX) (f : α → RR β) : RR.bnd (.exc x) f = .exc x := rfl
@[simp] theorem RR.bnd_stuck {α β : Type} (f : α → RR β) : RR.bnd .stuck f = .stuck := rfl
def RR.ofO {α : Type} : Option α → RR α
  | some a => .ok a
  | none => .stuck
@[simp] theorem RR.ofO_some {α : Type} (a : α) : RR.ofO (some a) = .ok a := rfl
@[simp] theorem RR.ofO_none {α : Type} : RR.ofO (none : Option α) = .stuck := rfl
def fitR {α : Type} (xs : List α) : RR (List α) := if xs.length ≤ sizeLine then .ok xs else .stuck
theorem fitR_ok {α : Type} {xs : List α} (h : xs.length ≤ 16777216) : fitR xs = .ok xs := if_pos h

/-- == and in as truth values -/
def eqB {α : Type} [DecidableEq α] (a b : α) : Bool := decide (a = b)
def inB {α : Type} [DecidableEq α] (a : α) (l : List α) : Bool := decide (a ∈ l)
@[simp] theorem eqB_iff {α : Type} [DecidableEq α] {a b : α} : eqB a b = true ↔ a = b := by simp [eqB]
@[simp] theorem inB_iff {α : Type} [DecidableEq α] {a : α} {l : List α} : inB a l = true ↔ a ∈ l := by simp [inB]
@[simp] theorem eqB_iff' {α : Type} [DecidableEq α] {a b : α} : eqB a b = false ↔ ¬ a = b := by simp [eqB]
@[simp] theorem inB_iff' {α : Type} [DecidableEq α] {a : α} {l : List α} : inB a l = false ↔ a ∉ l := by simp [inB]
/-! ### data -/
abbrev W := {x : Str // PyData.strOk x = true}
def eI : Int → PV := .int
def eB : Bool → PV := .bl
def eS : W → PV := fun x => .str x.1
def eN : Unit → PV := fun _ => .non
def eP : PV → PV := fun x => x
def eT2 {α β : Type} (e1 : α → PV) (e2 : β → PV) : α × β → PV := fun p => .tup [e1 p.1, e2 p.2]
def eT3 {α β γ : Type} (e1 : α → PV) (e2 : β → PV) (e3 : γ → PV) : α × β × γ → PV := fun p => .tup [e1 p.1, e2 p.2.1, e3 p.2.2]
def eT4 {α β γ δ : Type} (e1 : α → PV) (e2 : β → PV) (e3 : γ → PV) (e4 : δ → PV) : α × β × γ × δ → PV := fun p => .tup [e1 p.1, e2 p.2.1, e3 p.2.2.1, e4 p.2.2.2]
def eV {α : Type} (e : α → PV) : List α → PV := fun l => .tup (l.map e)
def eL {α : Type} (e : α → PV) : List α → PV := fun l => .lst (l.map e)
def eO {α : Type} (e : α → PV) : Option α → PV
  | none => .non
  | some a => e a
class RF {α : Type} (e : α → PV) : Prop where
  b : ∀ a, below 0 (e a) = true
theorem belows_map {α : Type} {e : α → PV} [RF e] : ∀ l : List α, belows 0 (l.map e) = true
  | [] => rfl
  | a :: l => by simp [belows, RF.b a, belows_map l]
instance : RF eI := ⟨fun _ => rfl⟩
instance : RF eB := ⟨fun _ => rfl⟩
instance : RF eS := ⟨fun _ => rfl⟩
instance : RF eN := ⟨fun _ => rfl⟩
instance {α β : Type} {e1 : α → PV} {e2 : β → PV} [RF e1] [RF e2] : RF (eT2 e1 e2) := ⟨fun p => by simp [eT2, below, belows, RF.b p.1, RF.b p.2]⟩
instance {α β γ : Type} {e1 : α → PV} {e2 : β → PV} {e3 : γ → PV} [RF e1] [RF e2] [RF e3] : RF (eT3 e1 e2 e3) := ⟨fun p => by simp [eT3, below, belows, RF.b p.1, RF.b p.2.1, RF.b p.2.2]⟩
instance {α β γ δ : Type} {e1 : α → PV} {e2 : β → PV} {e3 : γ → PV} {e4 : δ → PV} [RF e1] [RF e2] [RF e3] [RF e4] : RF (eT4 e1 e2 e3 e4) := ⟨fun p => by simp [eT4, below, belows, RF.b p.1, RF.b p.2.1, RF.b p.2.2.1, RF.b p.2.2.2]⟩
instance {α : Type} {e : α → PV} [RF e] : RF (eV e) := ⟨fun l => by simp [eV, below, belows_map l]⟩
instance {α : Type} {e : α → PV} [RF e] : RF (eL e) := ⟨fun l => by simp [eL, below, belows_map l]⟩
instance {α : Type} {e : α → PV} [RF e] : RF (eO e) := ⟨fun l => by cases l with
  | none => rfl
  | some a => exact RF.b a⟩
mutual
theorem below_mono {n : Nat} : ∀ x : PV, below 0 x = true → below n x = true
  | .non, _ => rfl
  | .bl _, _ => rfl
  | .int _, _ => rfl
  | .str _, _ => rfl
  | .tup xs, h => by simp only [below] at h ⊢; exact belows_mono xs h
  | .lst xs, h => by simp only [below] at h ⊢; exact belows_mono xs h
  | .ref k, h => by simp [below] at h
theorem belows_mono {n : Nat} : ∀ xs : List PV, belows 0 xs = true → belows n xs = true
  | [], _ => rfl
  | x :: xs, h => by
    simp only [belows, Bool.and_eq_true] at h ⊢
    exact ⟨below_mono x h.1, belows_mono xs h.2⟩
end
/-- data whose == is that of Lean -/
class DE {α : Type} (e : α → PV) (n : outParam Nat) [DecidableEq α] : Prop where
  to : ∀ a, toD (e a) = some (dt (e a))
  lay : ∀ a, (dt (e a)).canLay0 = true
  dep : ∀ a, (dt (e a)).depth ≤ n
  eq : ∀ a b, PyData.eqv (dt (e a)) (dt (e b)) = decide (a = b)
theorem eqv_int (i j : Int) : PyData.eqv (.int i) (.int j) = decide (i = j) := by simp only [PyData.eqv]; rw [Bool.eq_iff_iff]; simp
instance : DE eI 0 := ⟨fun _ => rfl, fun _ => rfl, fun _ => Nat.le_refl _, fun a b => eqv_int a b⟩
instance : DE eB 0 := ⟨fun _ => rfl, fun _ => rfl, fun _ => Nat.le_refl _, fun a b => by simp [eB, dt, PyData.eqv]; cases a <;> cases b <;> rfl⟩
instance : DE eN 0 := ⟨fun _ => rfl, fun _ => rfl, fun _ => Nat.le_refl _, fun _ _ => rfl⟩
instance : DE eS 0 := ⟨fun _ => rfl, fun a => by simpa [eS, dt, PyData.canLay0] using a.2, fun _ => Nat.le_refl _, fun a b => by
  simp only [eS, dt]; rw [eqv_str]; exact decide_eq_decide.mpr Subtype.ext_iff.symm⟩
theorem toDs_of {α : Type} [DecidableEq α] {e : α → PV} {n : Nat} [DE e n] : ∀ l : List α, toDs (l.map e) = some (dts (l.map e))
  | [] => rfl
  | a :: l => by simp [toDs, dts, DE.to (e := e) a, toDs_of l]
theorem lay_of {α : Type} [DecidableEq α] {e : α → PV} {n : Nat} [DE e n] : ∀ l : List α, PyData.canLayAll0 (dts (l.map e)) = true
  | [] => rfl
  | a :: l => by simp [dts, PyData.canLayAll0, DE.lay (e := e) a, lay_of l]
theorem dep_of {α : Type} [DecidableEq α] {e : α → PV} {n : Nat} [DE e n] : ∀ l : List α, PyData.depthAll (dts (l.map e)) ≤ n
  | [] => Nat.zero_le _
  | a :: l => by
    have h1 := DE.dep (e := e) a
    have h2 := dep_of (e := e) l
    simp only [List.map_cons, dts, PyData.depthAll]; omega
theorem eqv_of {α : Type} [DecidableEq α] {e : α → PV} {n : Nat} [DE e n] : ∀ l m : List α, PyData.eqvAll (dts (l.map e)) (dts (m.map e)) = decide (l = m)
  | [], [] => rfl
  | [], _ :: _ => rfl
  | _ :: _, [] => rfl
  | a :: l, b :: m => by
    simp only [List.map_cons, dts, PyData.eqvAll, DE.eq (e := e) a b, eqv_of l m, List.cons.injEq]
    exact (Bool.decide_and _ _).symm
instance {α : Type} [DecidableEq α] {e : α → PV} {n : Nat} [DE e n] : DE (eV e) (n + 1) := ⟨fun l => by simp [eV, toD, dt, toDs_of l], fun l => by simpa [eV, dt, PyData.canLay0] using lay_of (e := e) l, fun l => by
  have := dep_of (e := e) l
  simp only [eV, dt, PyData.depth]; omega, fun l m => by simpa [eV, dt, PyData.eqv] using eqv_of (e := e) l m⟩
instance {α : Type} [DecidableEq α] {e : α → PV} {n : Nat} [DE e n] : DE (eL e) (n + 1) := ⟨fun l => by simp [eL, toD, dt, toDs_of l], fun l => by simpa [eL, dt, PyData.canLay0] using lay_of (e := e) l, fun l => by
  have := dep_of (e := e) l
  simp only [eL, dt, PyData.depth]; omega, fun l m => by simpa [eL, dt, PyData.eqv] using eqv_of (e := e) l m⟩
section
variable {α β γ δ : Type} [DecidableEq α] [DecidableEq β] [DecidableEq γ] [DecidableEq δ] {e1 : α → PV} {e2 : β → PV} {e3 : γ → PV} {e4 : δ → PV} {n1 n2 n3 n4 : Nat} [DE e1 n1] [DE e2 n2] [DE e3 n3] [DE e4 n4]
instance : DE (eT2 e1 e2) (n1 + n2 + 1) := ⟨fun p => by simp [eT2, toD, toDs, dt, dts, DE.to p.1, DE.to p.2], fun p => by simp [eT2, dt, dts, PyData.canLay0, PyData.canLayAll0, DE.lay (e := e1) p.1, DE.lay (e := e2) p.2], fun p => by
  have h1 := DE.dep (e := e1) p.1
  have h2 := DE.dep (e := e2) p.2
  simp only [eT2, dt, dts, PyData.depth, PyData.depthAll]; omega, fun p q => by
  simp only [eT2, dt, dts, PyData.eqv, PyData.eqvAll, DE.eq (e := e1), DE.eq (e := e2), Bool.and_true, Prod.ext_iff]
  exact (Bool.decide_and _ _).symm⟩
instance : DE (eT3 e1 e2 e3) (n1 + n2 + n3 + 1) := ⟨fun p => by simp [eT3, toD, toDs, dt, dts, DE.to p.1, DE.to p.2.1, DE.to p.2.2], fun p => by simp [eT3, dt, dts, PyData.canLay0, PyData.canLayAll0, DE.lay (e := e1) p.1, DE.lay (e := e2) p.2.1, DE.lay (e := e3) p.2.2], fun p => by
  have h1 := DE.dep (e := e1) p.1
  have h2 := DE.dep (e := e2) p.2.1
  have h3 := DE.dep (e := e3) p.2.2
  simp only [eT3, dt, dts, PyData.depth, PyData.depthAll]; omega, fun p q => by
  simp only [eT3, dt, dts, PyData.eqv, PyData.eqvAll, DE.eq (e := e1), DE.eq (e := e2), DE.eq (e := e3), Bool.and_true, Prod.ext_iff]
  rw [Bool.decide_and, Bool.decide_and]⟩
instance : DE (eT4 e1 e2 e3 e4) (n1 + n2 + n3 + n4 + 1) := ⟨fun p => by simp [eT4, toD, toDs, dt, dts, DE.to p.1, DE.to p.2.1, DE.to p.2.2.1, DE.to p.2.2.2], fun p => by simp [eT4, dt, dts, PyData.canLay0, PyData.canLayAll0, DE.lay (e := e1) p.1, DE.lay (e := e2) p.2.1, DE.lay (e := e3) p.2.2.1, DE.lay (e := e4) p.2.2.2], fun p => by
  have h1 := DE.dep (e := e1) p.1
  have h2 := DE.dep (e := e2) p.2.1
  have h3 := DE.dep (e := e3) p.2.2.1
  have h4 := DE.dep (e := e4) p.2.2.2
  simp only [eT4, dt, dts, PyData.depth, PyData.depthAll]; omega, fun p q => by
  simp only [eT4, dt, dts, PyData.eqv, PyData.eqvAll, DE.eq (e := e1), DE.eq (e := e2), DE.eq (e := e3), DE.eq (e := e4), Bool.and_true, Prod.ext_iff]
  rw [Bool.decide_and, Bool.decide_and, Bool.decide_and]⟩
end
/-- data that is not None -/
class NN {α : Type} (e : α → PV) : Prop where
  nn : ∀ a, PyData.eqv (dt (e a)) .none = false ∧ PyData.eqv .none (dt (e a)) = false
  is : ∀ a, e a ≠ .non
instance : NN eI := ⟨fun _ => ⟨rfl, rfl⟩, fun _ h => by cases h⟩
instance : NN eB := ⟨fun _ => ⟨rfl, rfl⟩, fun _ h => by cases h⟩
instance : NN eS := ⟨fun _ => ⟨rfl, rfl⟩, fun _ h => by cases h⟩
instance {α β : Type} {e1 : α → PV} {e2 : β → PV} : NN (eT2 e1 e2) := ⟨fun _ => ⟨rfl, rfl⟩, fun _ h => by cases h⟩
instance {α β γ : Type} {e1 : α → PV} {e2 : β → PV} {e3 : γ → PV} : NN (eT3 e1 e2 e3) := ⟨fun _ => ⟨rfl, rfl⟩, fun _ h => by cases h⟩
instance {α β γ δ : Type} {e1 : α → PV} {e2 : β → PV} {e3 : γ → PV} {e4 : δ → PV} : NN (eT4 e1 e2 e3 e4) := ⟨fun _ => ⟨rfl, rfl⟩, fun _ h => by cases h⟩
instance {α : Type} {e : α → PV} : NN (eV e) := ⟨fun _ => ⟨rfl, rfl⟩, fun _ h => by cases h⟩
instance {α : Type} {e : α → PV} : NN (eL e) := ⟨fun _ => ⟨rfl, rfl⟩, fun _ h => by cases h⟩
instance {α : Type} [DecidableEq α] {e : α → PV} {n : Nat} [DE e n] [NN e] : DE (eO e) n := ⟨fun a => by cases a with
  | none => rfl
  | some a => exact DE.to a, fun a => by cases a with
  | none => rfl
  | some a => exact DE.lay a, fun a => by cases a with
  | none => exact Nat.zero_le _
  | some a => exact DE.dep a, fun a b => by
  cases a with
  | none => cases b with
    | none => rfl
    | some b => exact (NN.nn (e := e) b).2.trans (by simp)
  | some a => cases b with
    | none => exact (NN.nn (e := e) a).1.trans (by simp)
    | some b => exact (DE.eq a b).trans (decide_eq_decide.mpr (by simp))⟩
theorem shaped_of {α : Type} [DecidableEq α] {e : α → PV} {n : Nat} [DE e n] (h : n ≤ 64) (a : α) : SeqAt.shaped (dt (e a)) = true := by
  unfold SeqAt.shaped
  rw [DE.lay, Bool.true_and, decide_eq_true_eq]
  exact Nat.le_trans (DE.dep a) h
theorem dOf_of {α : Type} [DecidableEq α] {e : α → PV} {n : Nat} [DE e n] (a : α) (S : Sto) : dOf S (e a) = some (dt (e a)) := by
  have h := DE.to (e := e) a
  cases q : e a with
  | ref k => rw [q] at h; cases h
  | _ => rw [q] at h; exact h
theorem vEq_of {α : Type} [DecidableEq α] {e : α → PV} {n : Nat} [DE e n] (h : n ≤ 64) (a b : α) (S : Sto) : vEq (e a) (e b) S = some (.bl (decide (a = b)), S) := by
  unfold vEq
  rw [dOf_of a S, dOf_of b S]
  show (if _ then _ else _) = _
  rw [if_pos ⟨shaped_of h a, shaped_of h b⟩, DE.eq a b]
theorem vNe_of {α : Type} [DecidableEq α] {e : α → PV} {n : Nat} [DE e n] (h : n ≤ 64) (a b : α) (S : Sto) : vNe (e a) (e b) S = some (.bl (!decide (a = b)), S) := by
  unfold vNe
  rw [dOf_of a S, dOf_of b S]
  show (if _ then _ else _) = _
  rw [if_pos ⟨shaped_of h a, shaped_of h b⟩, DE.eq a b]
theorem any_of {α : Type} [DecidableEq α] {e : α → PV} {n : Nat} [DE e n] (a : α) (l : List α) : ((dts (l.map e)).any fun z => PyData.eqv z (dt (e a))) = decide (a ∈ l) := by
  rw [dts_map, List.map_map, List.any_map, Bool.eq_iff_iff, List.any_eq_true]
  simp only [Function.comp, DE.eq (e := e), decide_eq_true_eq]
  exact ⟨fun ⟨x, hx, e⟩ => e ▸ hx, fun hx => ⟨a, hx, rfl⟩⟩
theorem inAns_seq {S : Sto} {a b : PV} {d : PyData} {ds : List PyData} (h1 : dOf S a = some d) (h2 : dOf S b = some (.tuple ds) ∨ dOf S b = some (.list ds)) (h3 : SeqAt.shaped d = true) (h4 : SeqAt.shaped (.tuple ds) = true) : inAns S a b = some (ds.any fun z => PyData.eqv z d) := by
  have h5 : SeqAt.shaped (.list ds) = true := h4
  have key : (match dOf S a, dOf S b with
    | some d, some (.list ds) => if SeqAt.shaped d = true ∧ SeqAt.shaped (.list ds) = true then some (ds.any fun z => PyData.eqv z d) else none
    | some d, some (.tuple ds) => if SeqAt.shaped d = true ∧ SeqAt.shaped (.tuple ds) = true then some (ds.any fun z => PyData.eqv z d) else none
    | _, _ => none) = some (ds.any fun z => PyData.eqv z d) := by
    rw [h1]
    rcases h2 with h2 | h2
    · rw [h2]; exact if_pos ⟨h3, h4⟩
    · rw [h2]; exact if_pos ⟨h3, h5⟩
  cases a with
  | str x =>
    cases b with
    | str y => rcases h2 with h2 | h2 <;> cases h2
    | _ => exact key
  | _ => exact key
theorem inAns_of {α : Type} [DecidableEq α] {e : α → PV} {n : Nat} [DE e n] (h : n < 64) (a : α) (l : List α) (S : Sto) : inAns S (e a) (eV e l) = some (decide (a ∈ l)) ∧ inAns S (e a) (eL e l) = some (decide (a ∈ l)) := by
  have h1 := shaped_of (e := e) (Nat.le_of_lt h) a
  have h2 := shaped_of (e := eV e) (n := n + 1) h l
  have h3 : SeqAt.shaped (.tuple (dts (l.map e))) = true := h2
  rw [← any_of (e := e) a l]
  exact ⟨inAns_seq (dOf_of a S) (.inl (dOf_of (e := eV e) l S)) h1 h3, inAns_seq (dOf_of a S) (.inr (dOf_of (e := eL e) l S)) h1 h3⟩
end MX

end

section
/-! Typed readings of expressions. -/
namespace MX
open PySem PySem.Spec PyProof.Rows L2

def EV {α : Type} (te : Sx) (sp : Sl) (L : Sto) (o : RR α) (e : α → PV) : Prop := match o with
  | .ok a => te sp L = .ok (e a) L
  | .exc x => te sp L = .exc x L
  | .stuck => True
def TV (t : St') (sp : Sl) (L : Sto) (o : RR Bool) : Prop := match o with
  | .ok a => t sp L = .ok a L
  | .exc x => t sp L = .exc x L
  | .stuck => True
def AV {α : Type} (t : Sa) (sp : Sl) (L : Sto) (o : RR α) (e : α → List PV) : Prop := match o with
  | .ok a => t sp L = .ok (e a) L
  | .exc x => t sp L = .exc x L
  | .stuck => True
def IV {α : Type} (t : Si) (sp : Sl) (L : Sto) (o : RR (List α)) (e : α → PV) : Prop := match o with
  | .ok a => t sp L = .ok (.items (a.map e)) L
  | .exc x => t sp L = .exc x L
  | .stuck => True
/-- what a def gives -/
def RV {α : Type} (r : RR PV) (o : RR α) (e : α → PV) : Prop := match o with
  | .ok a => r = .ok (e a)
  | .exc x => r = .exc x
  | .stuck => True
section
variable {α β γ δ : Type} {sp : Sl} {L : Sto} {ea : α → PV} {eb : β → PV} {ec : γ → PV} {ta tb tc : Sx} {oa : RR α} {ob : RR β}
theorem EV.run1 {t : Sx} {k : PV → Sto → Out PV} {f : α → RR γ} (ha : EV ta sp L oa ea) (ht : t sp L = (ta sp L).bind k) (hk : ∀ a, match f a with
    | .ok c => k (ea a) L = .ok (ec c) L
    | .exc x => k (ea a) L = .exc x L
    | .stuck => True) : EV t sp L (oa.bnd f) ec := by
  cases oa with
  | stuck => trivial
  | exc x =>
    have h : ta sp L = .exc x L := ha
    show t sp L = _
    rw [ht, h]
  | ok a =>
    have h : ta sp L = .ok (ea a) L := ha
    have q := hk a
    show EV t sp L (f a) ec
    unfold EV
    cases hf : f a with
    | ok c => rw [hf] at q; rw [ht, h]; exact q
    | exc x => rw [hf] at q; rw [ht, h]; exact q
    | stuck => exact True.intro
theorem EV.elim {t : Sx} {o : RR α} (h : EV t sp L o ea) : (match o with
    | .ok c => t sp L = .ok (ea c) L
    | .exc x => t sp L = .exc x L
    | .stuck => True) := by cases o with
  | stuck => trivial
  | _ => exact h
theorem ev_var {i : Nat} {a : α} (h : sp[i]? = some (some (ea a))) : EV (sxVar i) sp L (.ok a) ea := by
  show sxVar i sp L = _
  unfold sxVar; rw [h]
theorem ev_c {v : PV} {a : α} (h : v = ea a) : EV (sxC v) sp L (.ok a) ea := by
  show sxC v sp L = _
  unfold sxC; rw [h]
/-- an operator on two values -/
def O2 (o : V2) (ea : α → PV) (eb : β → PV) (ec : γ → PV) (f : α → β → RR γ) : Prop := ∀ a b L, match f a b with
  | .ok c => o (ea a) (eb b) L = some (ec c, L)
  | .exc _ => False
  | .stuck => True
def O1 (o : V1) (ea : α → PV) (ec : γ → PV) (f : α → RR γ) : Prop := ∀ a L, match f a with
  | .ok c => o (ea a) L = some (ec c, L)
  | .exc _ => False
  | .stuck => True
theorem ev_1 {o : V1} {f : α → RR γ} (ho : O1 o ea ec f) (ha : EV ta sp L oa ea) : EV (sx1 o ta) sp L (oa.bnd f) ec := ha.run1 rfl fun a => by
  have := ho a L
  cases h : f a with
  | ok c => rw [h] at this; show Out.of _ = _; rw [this]
  | exc x => rw [h] at this; exact this.elim
  | stuck => trivial
theorem ev_2 {o : V2} {f : α → β → RR γ} (ho : O2 o ea eb ec f) (ha : EV ta sp L oa ea) (hb : EV tb sp L ob eb) : EV (sx2 o ta tb) sp L (oa.bnd fun a => ob.bnd fun b => f a b) ec := ha.run1 rfl fun a => by
  have hb' := hb.elim
  cases ob with
  | stuck => trivial
  | exc x => show (tb sp L).bind _ = _; rw [(show tb sp L = _ from hb')]
  | ok b =>
    have := ho a b L
    show match f a b with
      | .ok c => _
      | .exc x => _
      | .stuck => True
    cases h : f a b with
    | ok c => rw [h] at this; show (tb sp L).bind _ = _; rw [(show tb sp L = _ from hb')]; show Out.of _ = _; rw [this]
    | exc x => rw [h] at this; exact this.elim
    | stuck => trivial
theorem ev_2t {o : V2} {g : α → β → γ} {a : α} {b : β} (ho : O2 o ea eb ec fun a b => .ok (g a b)) (ha : EV ta sp L (.ok a) ea) (hb : EV tb sp L (.ok b) eb) : EV (sx2 o ta tb) sp L (.ok (g a b)) ec := ev_2 ho ha hb
/-! arguments -/
theorem av_nil : AV saNil sp L (.ok ()) fun _ => [] := rfl
theorem av_cons {tr : Sa} {orr : RR β} {er : β → List PV} (ha : EV ta sp L oa ea) (hr : AV tr sp L orr er) : AV (saCons ta tr) sp L (oa.bnd fun a => orr.bnd fun r => .ok (a, r)) fun p => ea p.1 :: er p.2 := by
  cases oa with
  | stuck => trivial
  | exc x => show saCons ta tr sp L = _; unfold saCons; rw [(show ta sp L = _ from ha)]
  | ok a =>
    cases orr with
    | stuck => trivial
    | exc x => show saCons ta tr sp L = _; unfold saCons; rw [(show ta sp L = _ from ha)]; show (tr sp L).bind _ = _; rw [(show tr sp L = _ from hr)]
    | ok r => show saCons ta tr sp L = _; unfold saCons; rw [(show ta sp L = _ from ha)]; show (tr sp L).bind _ = _; rw [(show tr sp L = _ from hr)]
theorem AV.run1 {t : Sx} {tr : Sa} {or1 : RR α} {er : α → List PV} {k : List PV → Sto → Out PV} {f : α → RR γ} (ha : AV tr sp L or1 er) (ht : t sp L = (tr sp L).bind k) (hk : ∀ a, match f a with
    | .ok c => k (er a) L = .ok (ec c) L
    | .exc x => k (er a) L = .exc x L
    | .stuck => True) : EV t sp L (or1.bnd f) ec := by
  cases or1 with
  | stuck => trivial
  | exc x =>
    have h : tr sp L = .exc x L := ha
    show t sp L = _
    rw [ht, h]
  | ok a =>
    have h : tr sp L = .ok (er a) L := ha
    have q := hk a
    show EV t sp L (f a) ec
    unfold EV
    cases hf : f a with
    | ok c => rw [hf] at q; rw [ht, h]; exact q
    | exc x => rw [hf] at q; rw [ht, h]; exact q
    | stuck => exact True.intro
def ON (o : VN) (er : α → List PV) (ec : γ → PV) (f : α → RR γ) : Prop := ∀ a L, match f a with
  | .ok c => o (er a) L = some (ec c, L)
  | .exc _ => False
  | .stuck => True
theorem ev_n {o : VN} {tr : Sa} {or1 : RR α} {er : α → List PV} {f : α → RR γ} (ho : ON o er ec f) (ha : AV tr sp L or1 er) : EV (sxN o tr) sp L (or1.bnd f) ec := ha.run1 rfl fun a => by
  have := ho a L
  cases h : f a with
  | ok c => rw [h] at this; show Out.of _ = _; rw [this]
  | exc x => rw [h] at this; exact this.elim
  | stuck => trivial
/-- one argument -/
theorem ev_n1 {o : VN} {f : α → RR γ} (ho : ON o (fun a => [ea a]) ec f) (ha : EV ta sp L oa ea) : EV (sxN o (saCons ta saNil)) sp L (oa.bnd f) ec := by
  have h := ev_n (o := o) (f := fun p : α × Unit => f p.1) (ec := ec) (fun p => ho p.1) (av_cons ha av_nil)
  cases oa <;> exact h
theorem ev_n2 {o : VN} {f : α → β → RR γ} (ho : ON o (fun p : α × β => [ea p.1, eb p.2]) ec fun p => f p.1 p.2) (ha : EV ta sp L oa ea) (hb : EV tb sp L ob eb) : EV (sxN o (saCons ta (saCons tb saNil))) sp L (oa.bnd fun a => ob.bnd fun b => f a b) ec := by
  have h := ev_n (o := o) (f := fun p : α × β × Unit => f p.1 p.2.1) (ec := ec) (fun p => ho (p.1, p.2.1)) (av_cons ha (av_cons hb av_nil))
  cases oa <;> cases ob <;> exact h
/-- a call of a def -/
theorem ev_call {n : Nat} {p : List PV → RR PV} {tr : Sa} {or1 : RR α} {er : α → List PV} {f : α → RR γ} (ho : ∀ a, RV (p (er a)) (f a) ec) (ha : AV tr sp L or1 er) (hl : ∀ a, (er a).length = n) : EV (sxCall n (liftP p) tr) sp L (or1.bnd f) ec := ha.run1 rfl fun a => by
  have h := ho a
  unfold RV at h
  show match f a with
    | .ok c => (if (er a).length = n then liftP p (er a) L else .stuck) = .ok (ec c) L
    | .exc x => (if (er a).length = n then liftP p (er a) L else .stuck) = .exc x L
    | .stuck => True
  rw [if_pos (hl a)]
  unfold liftP
  cases hf : f a with
  | ok c => rw [hf] at h; simp only [h]
  | exc x => rw [hf] at h; simp only [h]
  | stuck => trivial
theorem ev_call0 {p : List PV → RR PV} {f : RR γ} (ho : RV (p []) f ec) : EV (sxCall 0 (liftP p) saNil) sp L f ec :=
  ev_call (f := fun _ : Unit => f) (fun _ => ho) av_nil fun _ => rfl
theorem ev_call1 {p : List PV → RR PV} {f : α → RR γ} (ho : ∀ a, RV (p [ea a]) (f a) ec) (ha : EV ta sp L oa ea) : EV (sxCall 1 (liftP p) (saCons ta saNil)) sp L (oa.bnd f) ec := by
  have h := ev_call (n := 1) (p := p) (f := fun p : α × Unit => f p.1) (ec := ec) (fun p => ho p.1) (av_cons ha av_nil) fun _ => rfl
  cases oa <;> exact h
theorem ev_call2 {p : List PV → RR PV} {f : α → β → RR γ} (ho : ∀ a b, RV (p [ea a, eb b]) (f a b) ec) (ha : EV ta sp L oa ea) (hb : EV tb sp L ob eb) : EV (sxCall 2 (liftP p) (saCons ta (saCons tb saNil))) sp L (oa.bnd fun a => ob.bnd fun b => f a b) ec := by
  have h := ev_call (n := 2) (p := p) (f := fun p : α × β × Unit => f p.1 p.2.1) (ec := ec) (fun p => ho p.1 p.2.1) (av_cons ha (av_cons hb av_nil)) fun _ => rfl
  cases oa <;> cases ob <;> exact h
theorem ev_call3 {x : Type} {ex : x → PV} {tx : Sx} {ox : RR x} {p : List PV → RR PV} {f : α → β → x → RR γ} (ho : ∀ a b c, RV (p [ea a, eb b, ex c]) (f a b c) ec) (ha : EV ta sp L oa ea) (hb : EV tb sp L ob eb) (hc : EV tx sp L ox ex) : EV (sxCall 3 (liftP p) (saCons ta (saCons tb (saCons tx saNil)))) sp L (oa.bnd fun a => ob.bnd fun b => ox.bnd fun c => f a b c) ec := by
  have h := ev_call (n := 3) (p := p) (f := fun p : α × β × x × Unit => f p.1 p.2.1 p.2.2.1) (ec := ec) (fun p => ho p.1 p.2.1 p.2.2.1) (av_cons ha (av_cons hb (av_cons hc av_nil))) fun _ => rfl
  cases oa <;> cases ob <;> cases ox <;> exact h
theorem ev_call4 {x y : Type} {ex : x → PV} {tx : Sx} {ox : RR x} {ey : y → PV} {ty : Sx} {oy : RR y} {p : List PV → RR PV} {f : α → β → x → y → RR γ} (ho : ∀ a b c d, RV (p [ea a, eb b, ex c, ey d]) (f a b c d) ec) (ha : EV ta sp L oa ea) (hb : EV tb sp L ob eb) (hc : EV tx sp L ox ex) (hd : EV ty sp L oy ey) : EV (sxCall 4 (liftP p) (saCons ta (saCons tb (saCons tx (saCons ty saNil))))) sp L (oa.bnd fun a => ob.bnd fun b => ox.bnd fun c => oy.bnd fun d => f a b c d) ec := by
  have h := ev_call (n := 4) (p := p) (f := fun p : α × β × x × y × Unit => f p.1 p.2.1 p.2.2.1 p.2.2.2.1) (ec := ec) (fun p => ho p.1 p.2.1 p.2.2.1 p.2.2.2.1) (av_cons ha (av_cons hb (av_cons hc (av_cons hd av_nil)))) fun _ => rfl
  cases oa <;> cases ob <;> cases ox <;> cases oy <;> exact h
theorem ev_call5 {x y z : Type} {ex : x → PV} {tx : Sx} {ox : RR x} {ey : y → PV} {ty : Sx} {oy : RR y} {ez : z → PV} {tz : Sx} {oz : RR z} {p : List PV → RR PV} {f : α → β → x → y → z → RR γ} (ho : ∀ a b c d g, RV (p [ea a, eb b, ex c, ey d, ez g]) (f a b c d g) ec) (ha : EV ta sp L oa ea) (hb : EV tb sp L ob eb) (hc : EV tx sp L ox ex) (hd : EV ty sp L oy ey) (he : EV tz sp L oz ez) : EV (sxCall 5 (liftP p) (saCons ta (saCons tb (saCons tx (saCons ty (saCons tz saNil)))))) sp L (oa.bnd fun a => ob.bnd fun b => ox.bnd fun c => oy.bnd fun d => oz.bnd fun g => f a b c d g) ec := by
  have h := ev_call (n := 5) (p := p) (f := fun p : α × β × x × y × z × Unit => f p.1 p.2.1 p.2.2.1 p.2.2.2.1 p.2.2.2.2.1) (ec := ec) (fun p => ho p.1 p.2.1 p.2.2.1 p.2.2.2.1 p.2.2.2.2.1) (av_cons ha (av_cons hb (av_cons hc (av_cons hd (av_cons he av_nil))))) fun _ => rfl
  cases oa <;> cases ob <;> cases ox <;> cases oy <;> cases oz <;> exact h
/-! tests -/
theorem tv_val {o : RR Bool} (h : EV ta sp L o eB) : TV (stB ta) sp L o := by
  cases o with
  | stuck => trivial
  | exc x => show stB ta sp L = _; unfold stB; rw [(show ta sp L = _ from h)]
  | ok a => show stB ta sp L = _; unfold stB; rw [(show ta sp L = _ from h)]; rfl
end
section
variable {α β γ : Type} {sp : Sl} {L : Sto} {t u : St'} {oa ob : RR Bool} {ta tb : Sx} {p q : Bool} {e : α → PV} {o1 o2 : RR α}
theorem TV.elim (h : TV t sp L oa) : (match oa with
    | .ok c => t sp L = .ok c L
    | .exc x => t sp L = .exc x L
    | .stuck => True) := by cases oa with
  | stuck => trivial
  | _ => exact h
theorem tv_and (ha : TV t sp L oa) (hb : TV u sp L ob) : TV (stAnd t u) sp L (oa.bnd fun k => if k = true then ob else .ok false) := by
  cases oa with
  | stuck => trivial
  | exc x => show stAnd t u sp L = _; unfold stAnd; rw [(show t sp L = _ from ha)]
  | ok a =>
    cases a with
    | false => show stAnd t u sp L = _; unfold stAnd; rw [(show t sp L = _ from ha)]; rfl
    | true =>
      have h : stAnd t u sp L = u sp L := by unfold stAnd; rw [(show t sp L = _ from ha)]; rfl
      show TV (stAnd t u) sp L ob
      unfold TV
      rw [h]; exact hb
theorem tv_or (ha : TV t sp L oa) (hb : TV u sp L ob) : TV (stOr t u) sp L (oa.bnd fun k => if k = true then .ok true else ob) := by
  cases oa with
  | stuck => trivial
  | exc x => show stOr t u sp L = _; unfold stOr; rw [(show t sp L = _ from ha)]
  | ok a =>
    cases a with
    | true => show stOr t u sp L = _; unfold stOr; rw [(show t sp L = _ from ha)]; rfl
    | false =>
      have h : stOr t u sp L = u sp L := by unfold stOr; rw [(show t sp L = _ from ha)]; rfl
      show TV (stOr t u) sp L ob
      unfold TV
      rw [h]; exact hb
theorem tv_not (ha : TV t sp L oa) : TV (stNot t) sp L (oa.bnd fun k => .ok (!k)) := by
  cases oa with
  | stuck => trivial
  | exc x => show stNot t sp L = _; unfold stNot; rw [(show t sp L = _ from ha)]
  | ok a => show stNot t sp L = _; unfold stNot; rw [(show t sp L = _ from ha)]
theorem tv_andt (ha : TV t sp L (.ok p)) (hb : TV u sp L (.ok q)) : TV (stAnd t u) sp L (.ok (p && q)) := by
  have h := tv_and ha hb
  cases p <;> exact h
theorem tv_ort (ha : TV t sp L (.ok p)) (hb : TV u sp L (.ok q)) : TV (stOr t u) sp L (.ok (p || q)) := by
  have h := tv_or ha hb
  cases p <;> exact h
theorem ev_and (ha : EV ta sp L oa eB) (hb : EV tb sp L ob eB) : EV (sxAnd ta tb) sp L (oa.bnd fun k => if k = true then ob else .ok false) eB := ha.run1 rfl fun a => by
  cases a with
  | false => rfl
  | true => exact hb
theorem ev_or (ha : EV ta sp L oa eB) (hb : EV tb sp L ob eB) : EV (sxOr ta tb) sp L (oa.bnd fun k => if k = true then .ok true else ob) eB := ha.run1 rfl fun a => by
  cases a with
  | true => rfl
  | false => exact hb
theorem ev_not (ha : EV ta sp L oa eB) : EV (sxNot ta) sp L (oa.bnd fun k => .ok (!k)) eB := ha.run1 rfl fun a => rfl
theorem ev_andt (ha : EV ta sp L (.ok p) eB) (hb : EV tb sp L (.ok q) eB) : EV (sxAnd ta tb) sp L (.ok (p && q)) eB := by
  have h := ev_and ha hb
  cases p <;> exact h
theorem ev_ort (ha : EV ta sp L (.ok p) eB) (hb : EV tb sp L (.ok q) eB) : EV (sxOr ta tb) sp L (.ok (p || q)) eB := by
  have h := ev_or ha hb
  cases p <;> exact h
theorem ev_if (hc : TV t sp L oa) (ha : EV ta sp L o1 e) (hb : EV tb sp L o2 e) : EV (sxIf t ta tb) sp L (oa.bnd fun k => if k = true then o1 else o2) e := by
  cases oa with
  | stuck => trivial
  | exc x => show sxIf t ta tb sp L = _; unfold sxIf; rw [(show t sp L = _ from hc)]
  | ok a =>
    cases a with
    | true =>
      have h : sxIf t ta tb sp L = ta sp L := by unfold sxIf; rw [(show t sp L = _ from hc)]; rfl
      show EV (sxIf t ta tb) sp L o1 e
      unfold EV; rw [h]; exact ha
    | false =>
      have h : sxIf t ta tb sp L = tb sp L := by unfold sxIf; rw [(show t sp L = _ from hc)]; rfl
      show EV (sxIf t ta tb) sp L o2 e
      unfold EV; rw [h]; exact hb
theorem ev_ift {a b : α} (hc : TV t sp L (.ok p)) (ha : EV ta sp L (.ok a) e) (hb : EV tb sp L (.ok b) e) : EV (sxIf t ta tb) sp L (.ok (if p = true then a else b)) e := by
  have h := ev_if hc ha hb
  cases p <;> exact h
/-- a value that is not None, as one that may be -/
theorem ev_some (h : EV ta sp L o1 e) : EV ta sp L (o1.bnd fun a => .ok (some a)) (eO e) := by
  cases o1 with
  | stuck => trivial
  | exc x => exact h
  | ok a => exact h
theorem ev_none (h : EV ta sp L (.ok ()) eN) : EV ta sp L (.ok (none : Option α)) (eO e) := h
end
end MX

end

section
/-! Typed readings: operators, items, displays, comprehensions, what is walked. -/
namespace MX
open PySem PySem.Spec PyProof.Rows L2

section
variable {α β γ δ : Type} {sp : Sl} {L : Sto} {e : α → PV} {ea : α → PV} {eb : β → PV} {ec : γ → PV} {ed : δ → PV} {ta tb tc td te : Sx} {oa : RR α} {ob : RR β} {oc : RR γ} {od : RR δ}
theorem o_addI : O2 vAdd eI eI eI fun a b => .ok (a + b) := fun _ _ _ => rfl
theorem o_subI : O2 vSub eI eI eI fun a b => .ok (a - b) := fun _ _ _ => rfl
theorem o_mulI : O2 vMulT eI eI eI fun a b => if CMul a b then .ok (a * b) else .stuck := fun a b L => by
  try dsimp only
  by_cases h : CMul a b
  · rw [if_pos h]; show vMul (.int a) (.int b) L = _; unfold vMul; exact if_pos h
  · rw [if_neg h]; trivial
theorem o_modI : O2 vMod eI eI eI fun a b => if b ≠ 0 then .ok (a.fmod b) else .stuck := fun a b L => by
  try dsimp only
  by_cases h : b ≠ 0
  · rw [if_pos h]; exact if_pos h
  · rw [if_neg h]; trivial
theorem o_fdivI : O2 vFDiv eI eI eI fun a b => if CDivN a b then .ok (a.fdiv b) else .stuck := fun a b L => by
  try dsimp only
  by_cases h : CDivN a b
  · rw [if_pos h]; exact if_pos h
  · rw [if_neg h]; trivial
theorem o_powI : O2 vPow eI eI eI fun a b => if CPow a b then .ok (a ^ b.toNat) else .stuck := fun a b L => by
  try dsimp only
  by_cases h : CPow a b
  · rw [if_pos h]; exact if_pos h
  · rw [if_neg h]; trivial
theorem o_negI : O1 vNeg eI eI fun a => .ok (-a) := fun _ _ => rfl
theorem o_lt : O2 vLt eI eI eB fun a b => .ok (decide (a < b)) := fun _ _ _ => rfl
theorem o_le : O2 vLe eI eI eB fun a b => .ok (decide (a ≤ b)) := fun _ _ _ => rfl
theorem o_gt : O2 vGt eI eI eB fun a b => .ok (decide (b < a)) := fun _ _ _ => rfl
theorem o_ge : O2 vGe eI eI eB fun a b => .ok (decide (b ≤ a)) := fun _ _ _ => rfl
theorem o_eq [DecidableEq α] {n : Nat} [DE e n] (h : n ≤ 64 := by decide) : O2 vEq e e eB fun a b => .ok (eqB a b) := fun a b L => vEq_of h a b L
theorem o_ne [DecidableEq α] {n : Nat} [DE e n] (h : n ≤ 64 := by decide) : O2 vNe e e eB fun a b => .ok (!eqB a b) := fun a b L => vNe_of h a b L
theorem o_inV [DecidableEq α] {n : Nat} [DE e n] (h : n < 64 := by decide) : O2 vIn e (eV e) eB fun a l => .ok (inB a l) := fun a l L => by
  show vIn _ _ _ = _
  unfold vIn; rw [(inAns_of h a l L).1]; rfl
theorem o_inL [DecidableEq α] {n : Nat} [DE e n] (h : n < 64 := by decide) : O2 vIn e (eL e) eB fun a l => .ok (inB a l) := fun a l L => by
  show vIn _ _ _ = _
  unfold vIn; rw [(inAns_of h a l L).2]; rfl
theorem o_niV [DecidableEq α] {n : Nat} [DE e n] (h : n < 64 := by decide) : O2 vNotIn e (eV e) eB fun a l => .ok (!inB a l) := fun a l L => by
  show vNotIn _ _ _ = _
  unfold vNotIn; rw [(inAns_of h a l L).1]; rfl
theorem o_niL [DecidableEq α] {n : Nat} [DE e n] (h : n < 64 := by decide) : O2 vNotIn e (eL e) eB fun a l => .ok (!inB a l) := fun a l L => by
  show vNotIn _ _ _ = _
  unfold vNotIn; rw [(inAns_of h a l L).2]; rfl
theorem o_isN [NN e] : O2 vIsN (eO e) eN eB fun a _ => .ok a.isNone := fun a _ L => by
  cases a with
  | none => rfl
  | some a =>
    have h := NN.is (e := e) a
    have q : ∀ v : PV, v ≠ .non → vIsN v .non L = some (.bl false, L) := fun v hv => by
      cases v with
      | non => exact absurd rfl hv
      | _ => rfl
    exact q _ h
theorem o_notN [NN e] : O2 vIsNotN (eO e) eN eB fun a _ => .ok a.isSome := fun a _ L => by
  cases a with
  | none => rfl
  | some a =>
    have h := NN.is (e := e) a
    have q : ∀ v : PV, v ≠ .non → vIsNotN v .non L = some (.bl true, L) := fun v hv => by
      cases v with
      | non => exact absurd rfl hv
      | _ => rfl
    exact q _ h
/-! sequences -/
theorem o_addL : O2 vAdd (eL e) (eL e) (eL e) fun a b => fitR (a ++ b) := fun a b L => by
  unfold fitR
  try dsimp only
  by_cases h : (a ++ b).length ≤ sizeLine
  · rw [if_pos h]
    show vAdd (.lst (a.map e)) (.lst (b.map e)) L = _
    unfold vAdd
    show (if _ then _ else _) = _
    rw [if_pos (by simpa using h)]
    simp [eL]
  · rw [if_neg h]; trivial
theorem o_addV : O2 vAdd (eV e) (eV e) (eV e) fun a b => fitR (a ++ b) := fun a b L => by
  unfold fitR
  try dsimp only
  by_cases h : (a ++ b).length ≤ sizeLine
  · rw [if_pos h]
    show vAdd (.tup (a.map e)) (.tup (b.map e)) L = _
    unfold vAdd
    show (if _ then _ else _) = _
    rw [if_pos (by simpa using h)]
    simp [eV]
  · rw [if_neg h]; trivial
def mulV (xs : List α) (k : Int) : RR (List α) := if k = 1 then .ok xs else if xs ≠ [] ∧ 2 ≤ k ∧ k ≤ 1000 ∧ xs.length ≤ 1000 then .ok (List.replicate k.toNat xs).flatten else .stuck
theorem flat_repN (f : α → PV) (n : Nat) (xs : List α) : (List.replicate n (xs.map f)).flatten = ((List.replicate n xs).flatten).map f := by
  induction n with
  | zero => rfl
  | succ n ih => rw [List.replicate_succ, List.replicate_succ, List.flatten_cons, List.flatten_cons, List.map_append, ih]
theorem o_mulV : O2 vMulT (eV e) eI (eV e) mulV := fun a b L => by
  unfold mulV
  try dsimp only
  by_cases h : b = 1
  · rw [if_pos h]
    show vMulT (.tup _) (.int b) L = _
    unfold vMulT; exact if_pos h
  · rw [if_neg h]
    try dsimp only
    by_cases h2 : a ≠ [] ∧ 2 ≤ b ∧ b ≤ 1000 ∧ a.length ≤ 1000
    · rw [if_pos h2]
      show vMulT (.tup _) (.int b) L = _
      unfold vMulT
      show (if _ then _ else _) = _
      rw [if_neg h]
      unfold vMul
      show (if _ then _ else _) = _
      rw [if_pos ⟨by simpa using h2.1, h2.2.1, h2.2.2.1, by simpa using h2.2.2.2⟩, flat_repN]; rfl
    · rw [if_neg h2]; trivial
def mulL (xs : List α) (k : Int) : RR (List α) := if -(2 ^ 63) ≤ k ∧ k < 2 ^ 63 ∧ xs.length * k.toNat ≤ sizeLine then .ok (List.replicate k.toNat xs).flatten else .stuck
theorem o_mulL : O2 vMulT (eL e) eI (eL e) mulL := fun a b L => by
  unfold mulL
  try dsimp only
  by_cases h2 : -(2 ^ 63) ≤ b ∧ b < 2 ^ 63 ∧ a.length * b.toNat ≤ sizeLine
  · rw [if_pos h2]
    show vMulT (.lst (a.map e)) (.int b) L = _
    unfold vMulT vMul
    show (if _ then _ else _) = _
    rw [if_pos ⟨h2.1, h2.2.1, by simpa using h2.2.2⟩, flat_repN]; rfl
  · rw [if_neg h2]; trivial
theorem atI_map (f : α → β) (l : List α) (i : Int) : atI (l.map f) i = (atI l i).map f := by
  unfold atI
  rw [List.length_map]
  cases ixN l.length i with
  | none => rfl
  | some j => simp
theorem o_itV : O2 vItem (eV e) eI e fun l i => .ofO (atI l i) := fun l i L => by
  dsimp only
  cases h : atI l i with
  | none => trivial
  | some a =>
    show vItem (eV e l) (eI i) L = some (e a, L)
    show (atI (l.map e) i).map _ = _
    rw [atI_map, h]; rfl
theorem o_itL : O2 vItem (eL e) eI e fun l i => .ofO (atI l i) := fun l i L => by
  dsimp only
  cases h : atI l i with
  | none => trivial
  | some a =>
    show vItem (eL e l) (eI i) L = some (e a, L)
    show (atI (l.map e) i).map _ = _
    rw [atI_map, h]; rfl
/-- a written place of a tuple of known length -/
theorem ev_at {k : Int} {g : α → γ} (ha : EV ta sp L oa ea) (h : ∀ a L, vItem (ea a) (.int k) L = some (ec (g a), L)) : EV (sx2 vItem ta (sxC (.int k))) sp L (oa.bnd fun a => .ok (g a)) ec := ha.run1 rfl fun a => by
  show Out.of (vItem (ea a) (.int k) L) = _
  rw [h]
/-! displays -/
theorem ev_t2 (ha : EV ta sp L oa ea) (hb : EV tb sp L ob eb) : EV (sxN vTup (saCons ta (saCons tb saNil))) sp L (oa.bnd fun a => ob.bnd fun b => .ok (a, b)) (eT2 ea eb) := ev_n2 (fun _ _ => rfl) ha hb
theorem ev_t3 (ha : EV ta sp L oa ea) (hb : EV tb sp L ob eb) (hc : EV tc sp L oc ec) : EV (sxN vTup (saCons ta (saCons tb (saCons tc saNil)))) sp L (oa.bnd fun a => ob.bnd fun b => oc.bnd fun c => .ok (a, b, c)) (eT3 ea eb ec) := by
  have h := ev_n (o := vTup) (f := fun p : α × β × γ × Unit => .ok (p.1, p.2.1, p.2.2.1)) (ec := eT3 ea eb ec) (fun _ _ => rfl) (av_cons ha (av_cons hb (av_cons hc av_nil)))
  cases oa <;> cases ob <;> cases oc <;> exact h
theorem ev_t4 (ha : EV ta sp L oa ea) (hb : EV tb sp L ob eb) (hc : EV tc sp L oc ec) (hd : EV td sp L od ed) : EV (sxN vTup (saCons ta (saCons tb (saCons tc (saCons td saNil))))) sp L (oa.bnd fun a => ob.bnd fun b => oc.bnd fun c => od.bnd fun d => .ok (a, b, c, d)) (eT4 ea eb ec ed) := by
  have h := ev_n (o := vTup) (f := fun p : α × β × γ × δ × Unit => .ok (p.1, p.2.1, p.2.2.1, p.2.2.2.1)) (ec := eT4 ea eb ec ed) (fun _ _ => rfl) (av_cons ha (av_cons hb (av_cons hc (av_cons hd av_nil))))
  cases oa <;> cases ob <;> cases oc <;> cases od <;> exact h
theorem av_nilm : AV saNil sp L (.ok ([] : List α)) (List.map e) := rfl
theorem av_consm {tr : Sa} {o1 : RR α} {orr : RR (List α)} (ha : EV ta sp L o1 e) (hr : AV tr sp L orr (List.map e)) : AV (saCons ta tr) sp L (o1.bnd fun a => orr.bnd fun r => .ok (a :: r)) (List.map e) := by
  have h := av_cons ha hr
  cases o1 <;> cases orr <;> exact h
theorem ev_tv {tr : Sa} {orr : RR (List α)} (h : AV tr sp L orr (List.map e)) : EV (sxN vTup tr) sp L (orr.bnd fitR) (eV e) := ev_n (fun l L => by
  unfold fitR
  try dsimp only
  by_cases h : l.length ≤ sizeLine
  · rw [if_pos h]; show vTup _ _ = _; unfold vTup; rw [if_pos (by simpa using h)]; rfl
  · rw [if_neg h]; trivial) h
theorem ev_ll {tr : Sa} {orr : RR (List α)} (h : AV tr sp L orr (List.map e)) : EV (sxN vLst tr) sp L (orr.bnd fitR) (eL e) := ev_n (fun l L => by
  unfold fitR
  try dsimp only
  by_cases h : l.length ≤ sizeLine
  · rw [if_pos h]; show vLst _ _ = _; unfold vLst; rw [if_pos (by simpa using h)]; rfl
  · rw [if_neg h]; trivial) h
theorem ev_tv0 : EV (sxN vTup saNil) sp L (.ok ([] : List α)) (eV e) := rfl
theorem ev_ll0 : EV (sxN vLst saNil) sp L (.ok ([] : List α)) (eL e) := rfl
theorem ev_tv1 {a : α} (h : EV ta sp L (.ok a) e) : EV (sxN vTup (saCons ta saNil)) sp L (.ok [a]) (eV e) := ev_tv (av_consm h av_nilm)
theorem ev_ll1 {a : α} (h : EV ta sp L (.ok a) e) : EV (sxN vLst (saCons ta saNil)) sp L (.ok [a]) (eL e) := ev_ll (av_consm h av_nilm)
/-! built-ins -/
theorem o_lenV : ON vLen (fun l => [eV e l]) eI fun l => .ok (l.length : Int) := fun l L => by
  show vLen [eV e l] L = some (eI (l.length : Int), L)
  show (some (l.map e)).map (fun xs => (PV.int xs.length, L)) = _
  simp [eI]
theorem o_lenL : ON vLen (fun l => [eL e l]) eI fun l => .ok (l.length : Int) := fun l L => by
  show vLen [eL e l] L = some (eI (l.length : Int), L)
  show (some (l.map e)).map (fun xs => (PV.int xs.length, L)) = _
  simp [eI]
theorem o_lenS : ON vLen (fun l => [eS l]) eI fun l => if l.1.length ≤ sizeLine then .ok (l.1.length : Int) else .stuck := fun l L => by
  try dsimp only
  by_cases h : l.1.length ≤ sizeLine
  · rw [if_pos h]; exact if_pos h
  · rw [if_neg h]; trivial
theorem o_tupleL : ON vTuple (fun l => [eL e l]) (eV e) fun l => .ok l := fun l L => rfl
theorem o_tupleV : ON vTuple (fun l => [eV e l]) (eV e) fun l => .ok l := fun l L => rfl
theorem o_listL : ON vList (fun l => [eL e l]) (eL e) fun l => .ok l := fun l L => rfl
theorem o_listV : ON vList (fun l => [eV e l]) (eL e) fun l => .ok l := fun l L => rfl
theorem intsOf_eI : ∀ l : List Int, intsOf (l.map eI) = some l
  | [] => rfl
  | a :: l => by show ((intsOf (l.map eI)).map (a :: ·)) = _; rw [intsOf_eI l]; rfl
theorem blsOf_eB : ∀ l : List Bool, blsOf (l.map eB) = some l
  | [] => rfl
  | a :: l => by show ((blsOf (l.map eB)).map (a :: ·)) = _; rw [blsOf_eB l]; rfl
theorem o_sumL : ON vSum (fun l => [eL eI l]) eI fun l => .ok l.sum := fun l L => by
  show vSum [eL eI l] L = some (eI l.sum, L)
  show ((intsOf (l.map eI)).map fun ns => (PV.int ns.sum, L)) = _
  rw [intsOf_eI]; rfl
theorem o_allL : ON vAll (fun l => [eL eB l]) eB fun l => .ok (l.all id) := fun l L => by
  show vAll [eL eB l] L = some (eB (l.all id), L)
  show ((blsOf (l.map eB)).map fun bs => (PV.bl (bs.all id), L)) = _
  rw [blsOf_eB]; rfl
theorem o_anyL : ON vAny (fun l => [eL eB l]) eB fun l => .ok (l.any id) := fun l L => by
  show vAny [eL eB l] L = some (eB (l.any id), L)
  show ((blsOf (l.map eB)).map fun bs => (PV.bl (bs.any id), L)) = _
  rw [blsOf_eB]; rfl
theorem o_int : ON vInt (fun l => [eI l]) eI fun l => .ok l := fun l L => rfl
theorem o_min2 : ON vMin2 (fun p : Int × Int => [eI p.1, eI p.2]) eI fun p => .ok (if p.2 < p.1 then p.2 else p.1) := fun p L => rfl
theorem o_max2 : ON vMax2 (fun p : Int × Int => [eI p.1, eI p.2]) eI fun p => .ok (if p.2 > p.1 then p.2 else p.1) := fun p L => rfl
/-! slices -/
def OV (t : So) (sp : Sl) (L : Sto) (o : RR (Option Int)) : Prop := match o with
  | .ok a => t sp L = .ok a L
  | .exc x => t sp L = .exc x L
  | .stuck => True
theorem ov_no : OV soNo sp L (.ok none) := rfl
theorem ov_part {o : RR Int} (h : EV ta sp L o eI) : OV (soPart ta) sp L (o.bnd fun a => .ok (some a)) := by
  cases o with
  | stuck => trivial
  | exc x => show soPart ta sp L = _; unfold soPart; rw [(show ta sp L = _ from h)]
  | ok a => show soPart ta sp L = _; unfold soPart; rw [(show ta sp L = _ from h)]; rfl
def cutN (xs : List α) (lo hi : Option Int) : List α := (xs.drop (HT.sIx xs.length 0 lo)).take (HT.sIx xs.length xs.length hi - HT.sIx xs.length 0 lo)
theorem cut_map (f : α → PV) (xs : List α) (lo hi : Option Int) : cutP (xs.map f) lo hi = (cutN xs lo hi).map f := by
  unfold cutP cutN
  rw [List.length_map, List.map_take, List.map_drop]
theorem ev_sl {l h : So} {o1 : RR (List α)} {ol oh : RR (Option Int)} {E : List α → PV} (hE : ∀ xs lo hi L, vSl (E xs) lo hi L = some (E (cutN xs lo hi), L)) (ha : EV ta sp L o1 E) (hl : OV l sp L ol) (hh : OV h sp L oh) :
    EV (sxSl vSl ta l h) sp L (o1.bnd fun a => ol.bnd fun lo => oh.bnd fun hi => .ok (cutN a lo hi)) E := ha.run1 rfl fun a => by
  cases ol with
  | stuck => trivial
  | exc x => show (l sp L).bind _ = _; rw [(show l sp L = _ from hl)]
  | ok lo =>
    cases oh with
    | stuck => trivial
    | exc x => show (l sp L).bind _ = _; rw [(show l sp L = _ from hl)]; show (h sp L).bind _ = _; rw [(show h sp L = _ from hh)]
    | ok hi => show (l sp L).bind _ = _; rw [(show l sp L = _ from hl)]; show (h sp L).bind _ = _; rw [(show h sp L = _ from hh)]; show Out.of _ = _; rw [hE]
theorem sl_V (xs : List α) (lo hi : Option Int) (L : Sto) : vSl (eV e xs) lo hi L = some (eV e (cutN xs lo hi), L) := by
  show some (PV.tup (cutP (xs.map e) lo hi), L) = _
  rw [cut_map]; rfl
theorem sl_L (xs : List α) (lo hi : Option Int) (L : Sto) : vSl (eL e xs) lo hi L = some (eL e (cutN xs lo hi), L) := by
  show (match listOf L (.lst (xs.map e)) with
    | some xs => some (PV.lst (cutP xs lo hi), L)
    | none => none) = _
  show some (PV.lst (cutP (xs.map e) lo hi), L) = _
  rw [cut_map]; rfl
/-! what is walked -/
theorem IV.run1 {t : Si} {k : PV → Sto → Out Src} {f : α → RR (List γ)} (ha : EV ta sp L oa ea) (ht : t sp L = (ta sp L).bind k) (hk : ∀ a, match f a with
    | .ok c => k (ea a) L = .ok (.items (c.map ec)) L
    | .exc x => k (ea a) L = .exc x L
    | .stuck => True) : IV t sp L (oa.bnd f) ec := by
  cases oa with
  | stuck => trivial
  | exc x =>
    have h : ta sp L = .exc x L := ha
    show t sp L = _
    rw [ht, h]
  | ok a =>
    have h : ta sp L = .ok (ea a) L := ha
    have q := hk a
    show IV t sp L (f a) ec
    unfold IV
    cases hf : f a with
    | ok c => rw [hf] at q; rw [ht, h]; exact q
    | exc x => rw [hf] at q; rw [ht, h]; exact q
    | stuck => exact True.intro
theorem iv_V {o : RR (List α)} (h : EV ta sp L o (eV e)) : IV (siSeq ta) sp L o e := by
  have := IV.run1 (t := siSeq ta) (f := fun l => .ok l) (ec := e) h rfl fun a => rfl
  cases o <;> exact this
theorem iv_L {o : RR (List α)} (h : EV ta sp L o (eL e)) : IV (siSeq ta) sp L o e := by
  have := IV.run1 (t := siSeq ta) (f := fun l => .ok l) (ec := e) h rfl fun a => rfl
  cases o <;> exact this
def rngN (lo : Int) (n : Nat) : List Int := (List.range n).map fun i => lo + (i : Nat)
theorem rngP_map (lo : Int) (n : Nat) : rngP lo n = (rngN lo n).map eI := by simp [rngP, rngN, eI]
def rng1R (j : Int) : RR (List Int) := if RngOk j then .ok (rngN 0 j.toNat) else .stuck
def rng2R (i j : Int) : RR (List Int) := if RngOk i ∧ RngOk j then .ok (rngN i (j - i).toNat) else .stuck
theorem iv_range1 {o : RR Int} (h : EV ta sp L o eI) : IV (siRange1 ta) sp L (o.bnd rng1R) eI := IV.run1 h rfl fun a => by
  unfold rng1R
  try dsimp only
  by_cases q : RngOk a
  · rw [if_pos q]; show (if RngOk a then _ else _) = _; rw [if_pos q, rngP_map]
  · rw [if_neg q]; trivial
theorem iv_range2 {o o2 : RR Int} (h : EV ta sp L o eI) (h2 : EV tb sp L o2 eI) : IV (siRange2 ta tb) sp L (o.bnd fun a => o2.bnd fun b => rng2R a b) eI := IV.run1 h rfl fun a => by
  cases o2 with
  | stuck => trivial
  | exc x => show (tb sp L).bind _ = _; rw [(show tb sp L = _ from h2)]
  | ok b =>
    rw [RR.bnd_ok]
    unfold rng2R
    try dsimp only
    by_cases q : RngOk a ∧ RngOk b
    · rw [if_pos q]; show (tb sp L).bind _ = _; rw [(show tb sp L = _ from h2)]; show (if RngOk a ∧ RngOk b then _ else _) = _; rw [if_pos q, rngP_map]
    · rw [if_neg q]; trivial
def enumN : Nat → List α → List (Int × α)
  | _, [] => []
  | i, x :: xs => ((i : Nat), x) :: enumN (i + 1) xs
theorem enumP_mapN (f : α → PV) : ∀ (i : Nat) (xs : List α), enumP i (xs.map f) = (enumN i xs).map (eT2 eI f)
  | _, [] => rfl
  | i, x :: xs => by simp [enumP, enumN, enumP_mapN f (i + 1) xs, eT2, eI]
theorem iv_enumV {o : RR (List α)} (h : EV ta sp L o (eV e)) : IV (siEnum ta) sp L (o.bnd fun l => .ok (enumN 0 l)) (eT2 eI e) := IV.run1 h rfl fun a => by
  show Out.ok (Src.items (enumP 0 (a.map e))) L = _
  rw [enumP_mapN]
theorem iv_enumL {o : RR (List α)} (h : EV ta sp L o (eL e)) : IV (siEnum ta) sp L (o.bnd fun l => .ok (enumN 0 l)) (eT2 eI e) := IV.run1 h rfl fun a => by
  show Out.ok (Src.items (enumP 0 (a.map e))) L = _
  rw [enumP_mapN]
theorem zipP_map (f : α → PV) (g : β → PV) : ∀ (xs : List α) (ys : List β), zipP (xs.map f) (ys.map g) = (xs.zip ys).map (eT2 f g)
  | [], _ => by simp [zipP]
  | _ :: _, [] => by simp [zipP]
  | x :: xs, y :: ys => by simp [zipP, zipP_map f g xs ys, eT2]
theorem iv_zipV {o : RR (List α)} {o2 : RR (List β)} (h : EV ta sp L o (eV ea)) (h2 : EV tb sp L o2 (eV eb)) : IV (siZip ta tb) sp L (o.bnd fun a => o2.bnd fun b => .ok (a.zip b)) (eT2 ea eb) := IV.run1 h rfl fun a => by
  cases o2 with
  | stuck => trivial
  | exc x => show (tb sp L).bind _ = _; rw [(show tb sp L = _ from h2)]
  | ok b => show (tb sp L).bind _ = _; rw [(show tb sp L = _ from h2)]; show Out.ok (Src.items (zipP (a.map ea) (b.map eb))) L = _; rw [zipP_map]
theorem iv_zipL {o : RR (List α)} {o2 : RR (List β)} (h : EV ta sp L o (eL ea)) (h2 : EV tb sp L o2 (eL eb)) : IV (siZip ta tb) sp L (o.bnd fun a => o2.bnd fun b => .ok (a.zip b)) (eT2 ea eb) := IV.run1 h rfl fun a => by
  cases o2 with
  | stuck => trivial
  | exc x => show (tb sp L).bind _ = _; rw [(show tb sp L = _ from h2)]
  | ok b => show (tb sp L).bind _ = _; rw [(show tb sp L = _ from h2)]; show Out.ok (Src.items (zipP (a.map ea) (b.map eb))) L = _; rw [zipP_map]
/-! comprehensions -/
def lcR (p : α → RR Bool) (f : α → RR γ) : List α → RR (List γ)
  | [] => .ok []
  | x :: xs => match p x with
    | .ok true => match f x with
      | .ok y => match lcR p f xs with
        | .ok r => .ok (y :: r)
        | _ => .stuck
      | _ => .stuck
    | .ok false => lcR p f xs
    | _ => .stuck
theorem lcR_t (p : α → Bool) (f : α → γ) : ∀ l : List α, lcR (fun x => .ok (p x)) (fun x => .ok (f x)) l = .ok ((l.filter p).map f)
  | [] => rfl
  | x :: l => by
    unfold lcR
    cases h : p x <;> simp [lcR_t p f l, h]
theorem lcR_noexc (p : α → RR Bool) (f : α → RR γ) : ∀ (l : List α) (x : EX), lcR p f l ≠ .exc x
  | [], x, h => by cases h
  | a :: l, x, h => by
    unfold lcR at h
    split at h
    · split at h
      · split at h <;> cases h
      · cases h
    · exact lcR_noexc p f l x h
    · cases h
theorem lcL_R {sp : Sl} {t : Sg} {c : St'} {te : Sx} {p : α → RR Bool} {f : α → RR γ} {E : α → Sl} (ht : ∀ x, t (ea x) sp L = some (E x)) (hc : ∀ x, TV c (E x) L (p x)) (he : ∀ x, EV te (E x) L (f x) ec) :
    ∀ (l : List α) (r : List γ), lcR p f l = .ok r → lcL sp t c te (l.map ea) L = .ok (r.map ec) L
  | [], r, h => by cases h; rfl
  | x :: l, r, h => by
    simp only [List.map_cons, lcL, ht x]
    have h1 := hc x
    have h2 := he x
    unfold lcR at h
    split at h
    · rename_i hp
      rw [hp] at h1
      rw [(show c (E x) L = _ from h1)]
      split at h
      · rename_i y hf
        rw [hf] at h2
        split at h
        · rename_i r' hr
          cases h
          simp only [Out.pure, if_true]
          rw [(show te (E x) L = _ from h2)]
          simp only
          rw [lcL_R ht hc he l r' hr]; rfl
        · cases h
      · cases h
    · rename_i hp
      rw [hp] at h1
      rw [(show c (E x) L = _ from h1)]
      simp only [Out.pure, Bool.false_eq_true, if_false]
      exact lcL_R ht hc he l r h
    · cases h
theorem ev_lc {ti : Si} {vs : List Nat} {t : Sg} {c : St'} {te : Sx} {p : α → RR Bool} {f : α → RR γ} {E : α → Sl} {o : RR (List α)} (hi : IV ti sp L o ea) (ht : ∀ x, t (ea x) (wipeP sp vs) L = some (E x)) (hc : ∀ x, TV c (E x) L (p x)) (he : ∀ x, EV te (E x) L (f x) ec) :
    EV (sxLc fzL ti vs t c te) sp L (o.bnd fun l => (lcR p f l).bnd fitR) (eL ec) := by
  cases o with
  | stuck => trivial
  | exc x => show sxLc _ _ _ _ _ _ _ _ = _; unfold sxLc; rw [(show ti sp L = _ from hi)]
  | ok l =>
    have e0 : ti sp L = .ok (.items (l.map ea)) L := hi
    show EV _ _ _ ((lcR p f l).bnd fitR) _
    cases hr : lcR p f l with
    | stuck => trivial
    | exc x => exact absurd hr (lcR_noexc p f l x)
    | ok r =>
      show EV _ _ _ (fitR r) _
      unfold fitR
      try dsimp only
      by_cases hz : r.length ≤ sizeLine
      · rw [if_pos hz]
        show sxLc _ _ _ _ _ _ _ _ = _
        unfold sxLc
        rw [e0]
        show (lcL (wipeP sp vs) t c te (l.map ea) L).pure _ = _
        rw [lcL_R ht hc he l r hr]
        show Out.of (fzL (r.map ec) L) = _
        unfold fzL
        rw [if_pos (by simpa using hz)]; rfl
      · rw [if_neg hz]; trivial
theorem tv_yes : TV stYes sp L (.ok true) := rfl
theorem ev_lct {ti : Si} {vs : List Nat} {t : Sg} {c : St'} {te : Sx} {p : α → Bool} {f : α → γ} {E : α → Sl} {l : List α} (hi : IV ti sp L (.ok l) ea) (ht : ∀ x, t (ea x) (wipeP sp vs) L = some (E x)) (hc : ∀ x, TV c (E x) L (.ok (p x))) (he : ∀ x, EV te (E x) L (.ok (f x)) ec) :
    EV (sxLc fzL ti vs t c te) sp L (fitR ((l.filter p).map f)) (eL ec) := by
  have h := ev_lc hi ht hc he
  rw [RR.bnd_ok, lcR_t] at h
  exact h
theorem ev_lcy {ti : Si} {vs : List Nat} {t : Sg} {te : Sx} {f : α → γ} {E : α → Sl} {l : List α} (hi : IV ti sp L (.ok l) ea) (ht : ∀ x, t (ea x) (wipeP sp vs) L = some (E x)) (he : ∀ x, EV te (E x) L (.ok (f x)) ec) :
    EV (sxLc fzL ti vs t stYes te) sp L (fitR (l.map f)) (eL ec) := by
  have h := ev_lct (p := fun _ => true) hi ht (fun _ => tv_yes) he
  rwa [List.filter_eq_self.mpr (fun _ _ => rfl)] at h
end
end MX

end

section
/-! Typed readings of blocks and defs. -/
namespace MX
open PySem PySem.Spec PyProof.Rows L2

def GV {τ : Type} (t : Ss) (sp : Sl) (L : Sto) (o : RR τ) (J : τ → SOut → Prop) : Prop := match o with
  | .ok r => J r (t sp L)
  | .exc x => ∃ sp' L', t sp L = .exc x sp' L'
  | .stuck => True
inductive Rz (σ ρ : Type) where
  | nx (s : σ) | ct (s : σ) | bk (s : σ) | rt (v : ρ)
section
variable {τ α β γ σ ρ : Type} {sp sp1 : Sl} {L L1 : Sto} {J : τ → SOut → Prop} {ea e : α → PV} {eb : β → PV} {er : ρ → PV} {te ta tb : Sx} {oa : RR α} {ob : RR β} {o : RR τ} {r t u : Ss}
theorem GV.congr {t' : Ss} (h : GV t' sp1 L1 o J) (e : t sp L = t' sp1 L1) : GV t sp L o J := by
  cases o with
  | stuck => trivial
  | exc x => show ∃ sp' L', t sp L = .exc x sp' L'; rw [e]; exact h
  | ok r => show J r (t sp L); rw [e]; exact h
theorem gv_last (h : GV (ssSeq t ssNil) sp L o J) : GV t sp L o J := h.congr (by
  unfold ssSeq ssNil
  cases t sp L <;> rfl)
theorem gv_skip (h : GV r sp L o J) : GV (ssSeq ssNil r) sp L o J := h.congr rfl
theorem gv_assoc (h : GV (ssSeq t (ssSeq u r)) sp L o J) : GV (ssSeq (ssSeq t u) r) sp L o J := h.congr (by
  unfold ssSeq
  cases t sp L <;> rfl)
theorem gv_nil {x : τ} (h : J x (.nx sp L)) : GV ssNil sp L (.ok x) J := h
theorem gv_bnd {k : PV → Sto → SOut} {f : α → RR τ} (ha : EV te sp L oa ea) (ht : t sp L = bindS (te sp L) sp k) (hk : ∀ a, GV (fun _ _ => k (ea a) L) sp L (f a) J) : GV t sp L (oa.bnd f) J := by
  cases oa with
  | stuck => trivial
  | exc x => exact ⟨sp, L, by rw [ht, (show te sp L = _ from ha)]⟩
  | ok a => exact (hk a).congr (by rw [ht, (show te sp L = _ from ha)])
theorem gv_set {i : Nat} {f : α → RR τ} (ha : EV te sp L oa ea) (hr : ∀ a, GV r (sp.set i (some (ea a))) L (f a) J) : GV (ssSeq (ssSet i te) r) sp L (oa.bnd f) J := by
  cases oa with
  | stuck => trivial
  | exc x => exact ⟨sp, L, by unfold ssSeq ssSet; rw [(show te sp L = _ from ha)]⟩
  | ok a => exact (hr a).congr (by unfold ssSeq ssSet; rw [(show te sp L = _ from ha)])
theorem gv_sett {i : Nat} {a : α} (ha : EV te sp L (.ok a) ea) (hr : GV r (sp.set i (some (ea a))) L o J) : GV (ssSeq (ssSet i te) r) sp L o J := hr.congr (by unfold ssSeq ssSet; rw [(show te sp L = _ from ha)])
theorem gv_expr {f : α → RR τ} (ha : EV te sp L oa ea) (hr : ∀ a, GV r sp L (f a) J) : GV (ssSeq (ssExpr te) r) sp L (oa.bnd f) J := by
  cases oa with
  | stuck => trivial
  | exc x => exact ⟨sp, L, by unfold ssSeq ssExpr; rw [(show te sp L = _ from ha)]⟩
  | ok a => exact (hr a).congr (by unfold ssSeq ssExpr; rw [(show te sp L = _ from ha)])
theorem gv_ret {g : α → τ} (ha : EV te sp L oa ea) (hJ : ∀ a, J (g a) (.rt (ea a) L)) : GV (ssSeq (ssRet te) r) sp L (oa.bnd fun a => .ok (g a)) J := by
  cases oa with
  | stuck => trivial
  | exc x => exact ⟨sp, L, by unfold ssSeq ssRet; rw [(show te sp L = _ from ha)]⟩
  | ok a => show J (g a) _; unfold ssSeq ssRet; rw [(show te sp L = _ from ha)]; exact hJ a
theorem gv_retN {x : τ} (hJ : J x (.rt .non L)) : GV (ssSeq ssRetN r) sp L (.ok x) J := hJ
theorem gv_break {x : τ} (hJ : J x (.bk sp L)) : GV (ssSeq ssBreak r) sp L (.ok x) J := hJ
theorem gv_cont {x : τ} (hJ : J x (.ct sp L)) : GV (ssSeq ssCont r) sp L (.ok x) J := hJ
theorem gv_if {c : St'} {oc : RR Bool} {o1 o2 : RR τ} (hc : TV c sp L oc) (h1 : GV (ssSeq t r) sp L o1 J) (h2 : GV (ssSeq u r) sp L o2 J) : GV (ssSeq (ssIf c t u) r) sp L (oc.bnd fun k => if k = true then o1 else o2) J := by
  cases oc with
  | stuck => trivial
  | exc x => exact ⟨sp, L, by unfold ssSeq ssIf; rw [(show c sp L = _ from hc)]⟩
  | ok k =>
    cases k with
    | true => exact h1.congr (by unfold ssSeq ssIf; rw [(show c sp L = _ from hc)]; rfl)
    | false => exact h2.congr (by unfold ssSeq ssIf; rw [(show c sp L = _ from hc)]; rfl)
theorem gv_asg {tg : Sg} {E : α → Sl} {f : α → RR τ} (ha : EV te sp L oa ea) (ht : ∀ a, tg (ea a) sp L = some (E a)) (hr : ∀ a, GV r (E a) L (f a) J) : GV (ssSeq (ssAsg te tg) r) sp L (oa.bnd f) J := by
  cases oa with
  | stuck => trivial
  | exc x => exact ⟨sp, L, by unfold ssSeq ssAsg; rw [(show te sp L = _ from ha)]⟩
  | ok a => exact (hr a).congr (by unfold ssSeq ssAsg; rw [(show te sp L = _ from ha)]; simp only [bindS]; rw [ht a])
theorem gv_par {i j : Nat} {f : α → β → RR τ} (ha : EV ta sp L oa ea) (hb : EV tb sp L ob eb) (hr : ∀ a b, GV r ((sp.set i (some (ea a))).set j (some (eb b))) L (f a b) J) :
    GV (ssSeq (ssPar i j (saCons ta (saCons tb saNil))) r) sp L (oa.bnd fun a => ob.bnd fun b => f a b) J := by
  have h := av_cons ha (av_cons hb av_nil)
  cases oa with
  | stuck => trivial
  | exc x => exact ⟨sp, L, by unfold ssSeq ssPar; rw [(show saCons ta (saCons tb saNil) sp L = _ from h)]⟩
  | ok a =>
    cases ob with
    | stuck => trivial
    | exc x => exact ⟨sp, L, by unfold ssSeq ssPar; rw [(show saCons ta (saCons tb saNil) sp L = _ from h)]⟩
    | ok b => exact (hr a b).congr (by unfold ssSeq ssPar; rw [(show saCons ta (saCons tb saNil) sp L = _ from h)])
/-! lists of the block's own -/
theorem gv_new {i : Nat} (hr : GV r (sp.set i (some (.ref L.length))) (L ++ [.lst (([] : List α).map e)]) o J) : GV (ssSeq (ssSet i (sxN vNew saNil)) r) sp L o J := hr.congr rfl
theorem gv_newK {i : Nat} {tr : Sa} {ol : RR (List α)} {f : List α → RR τ} (ha : AV tr sp L ol (List.map e)) (hr : ∀ l, GV r (sp.set i (some (.ref L.length))) (L ++ [.lst (l.map e)]) (f l) J) : GV (ssSeq (ssSet i (sxN vNew tr)) r) sp L (ol.bnd fun l => (fitR l).bnd f) J := by
  cases ol with
  | stuck => trivial
  | exc x => exact ⟨sp, L, by unfold ssSeq ssSet sxN; rw [(show tr sp L = _ from ha)]⟩
  | ok l =>
    rw [RR.bnd_ok]
    unfold fitR
    by_cases h : l.length ≤ sizeLine
    · rw [if_pos h]
      exact (hr l).congr (by unfold ssSeq ssSet sxN; rw [(show tr sp L = _ from ha)]; show (match bindS (Out.of (vNew (l.map e) L)) sp _ with | .nx sp' S' => r sp' S' | o => o) = _; unfold vNew; rw [if_pos (by simpa using h)])
    · rw [if_neg h]; trivial
theorem gv_newLc {i : Nat} {ti : Si} {vs : List Nat} {tg : Sg} {c : St'} {te : Sx} {ol : RR (List α)} {f : List α → RR τ} (ha : EV (sxLc fzL ti vs tg c te) sp L ol (eL e)) (hr : ∀ l, GV r (sp.set i (some (.ref L.length))) (L ++ [.lst (l.map e)]) (f l) J) :
    GV (ssSeq (ssSet i (sxLc nwL ti vs tg c te)) r) sp L (ol.bnd f) J := by
  have key : ∀ (q : Out PV), sxLc fzL ti vs tg c te sp L = q → (∀ x, q = .exc x L → sxLc nwL ti vs tg c te sp L = .exc x L) ∧ ∀ l : List α, q = .ok (eL e l) L → sxLc nwL ti vs tg c te sp L = .ok (.ref L.length) (L ++ [.lst (l.map e)]) := fun q hq => by
    unfold sxLc at hq ⊢
    cases h1 : ti sp L with
    | stuck => rw [h1] at hq; subst hq; exact ⟨fun x z => (by cases z), fun l z => (by cases z)⟩
    | exc x S => rw [h1] at hq; subst hq; exact ⟨fun y z => (by cases z; rfl), fun l z => (by cases z)⟩
    | ok src S1 =>
      rw [h1] at hq
      simp only [Out.bind] at hq ⊢
      cases h2 : lcRun src (wipeP sp vs) tg c te S1 with
      | stuck => rw [h2] at hq; subst hq; exact ⟨fun x z => (by cases z), fun l z => (by cases z)⟩
      | exc x S => rw [h2] at hq; subst hq; exact ⟨fun x z => (by cases z), fun l z => (by cases z)⟩
      | ok ys S2 =>
        rw [h2] at hq
        simp only [Out.pure] at hq ⊢
        unfold fzL at hq
        unfold nwL
        by_cases hz : ys.length ≤ sizeLine
        · rw [if_pos hz] at hq
          rw [if_pos hz]
          subst hq
          exact ⟨fun x z => (by cases z), fun l z => (by cases z; rfl)⟩
        · rw [if_neg hz] at hq
          subst hq
          exact ⟨fun x z => (by cases z), fun l z => (by cases z)⟩
  cases ol with
  | stuck => trivial
  | exc x => exact ⟨sp, L, by unfold ssSeq ssSet; rw [(key _ rfl).1 x ha]⟩
  | ok l => exact (hr l).congr (by unfold ssSeq ssSet; rw [(key _ rfl).2 l ha])
theorem gv_newL {i : Nat} {ol : RR (List α)} {f : List α → RR τ} (ha : EV te sp L ol (eL e)) (hr : ∀ l, GV r (sp.set i (some (.ref L.length))) (L ++ [.lst (l.map e)]) (f l) J) : GV (ssSeq (ssSet i (sxN vListNew (saCons te saNil))) r) sp L (ol.bnd f) J := by
  have h := av_cons ha av_nil
  cases ol with
  | stuck => trivial
  | exc x => exact ⟨sp, L, by unfold ssSeq ssSet sxN; rw [(show saCons te saNil sp L = _ from h)]⟩
  | ok l => exact (hr l).congr (by unfold ssSeq ssSet sxN; rw [(show saCons te saNil sp L = _ from h)]; rfl)
theorem gv_parNew {i j : Nat} {f : α → RR τ} (ha : EV ta sp L oa ea) (hr : ∀ a, GV r ((sp.set i (some (ea a))).set j (some (.ref L.length))) (L ++ [.lst (([] : List β).map eb)]) (f a) J) :
    GV (ssSeq (ssPar i j (saCons ta (saCons (sxN vNew saNil) saNil))) r) sp L (oa.bnd f) J := by
  cases oa with
  | stuck => trivial
  | exc x => exact ⟨sp, L, by unfold ssSeq ssPar saCons; rw [(show ta sp L = _ from ha)]⟩
  | ok a => exact (hr a).congr (by unfold ssSeq ssPar saCons; rw [(show ta sp L = _ from ha)]; rfl)
theorem gv_app {i k : Nat} {xs : List α} {f : α → RR τ} (hs : sp[i]? = some (some (.ref k))) (hL : L[k]? = some (.lst (xs.map e))) (ha : EV te sp L oa e) (hr : ∀ a, GV r sp (L.set k (.lst ((xs ++ [a]).map e))) (f a) J) :
    GV (ssSeq (ssExpr (sxMt isL vAppend (sxVar i) (saCons te saNil))) r) sp L (oa.bnd fun a => if xs.length < sizeLine then f a else .stuck) J := by
  have hv : sxVar i sp L = .ok (.ref k) L := by unfold sxVar; rw [hs]
  have hc : isL L (.ref k) = true := by simp [isL, listOf, hL]
  have h := av_cons ha av_nil
  cases oa with
  | stuck => trivial
  | exc x => exact ⟨sp, L, by unfold ssSeq ssExpr sxMt; rw [hv]; simp only [Out.bind, hc, if_true]; rw [(show saCons te saNil sp L = _ from h)]⟩
  | ok a =>
    rw [RR.bnd_ok]
    by_cases q : xs.length < sizeLine
    · rw [if_pos q]
      refine (hr a).congr ?_
      unfold ssSeq ssExpr sxMt
      rw [hv]
      simp only [Out.bind, hc, if_true]
      rw [(show saCons te saNil sp L = _ from h)]
      simp only [Out.of, vAppend, hL]
      rw [if_pos (by simpa using q)]
      simp
    · rw [if_neg q]; trivial
theorem gv_ext {i k : Nat} {xs : List α} {ol : RR (List α)} {f : List α → RR τ} (hs : sp[i]? = some (some (.ref k))) (hL : L[k]? = some (.lst (xs.map e))) (ha : EV te sp L ol (eL e)) (hr : ∀ l, GV r sp (L.set k (.lst ((xs ++ l).map e))) (f l) J) :
    GV (ssSeq (ssExpr (sxMt isL vExtend (sxVar i) (saCons te saNil))) r) sp L (ol.bnd fun l => if xs.length + l.length ≤ sizeLine then f l else .stuck) J := by
  have hv : sxVar i sp L = .ok (.ref k) L := by unfold sxVar; rw [hs]
  have hc : isL L (.ref k) = true := by simp [isL, listOf, hL]
  have h := av_cons ha av_nil
  cases ol with
  | stuck => trivial
  | exc x => exact ⟨sp, L, by unfold ssSeq ssExpr sxMt; rw [hv]; simp only [Out.bind, hc, if_true]; rw [(show saCons te saNil sp L = _ from h)]⟩
  | ok a =>
    rw [RR.bnd_ok]
    by_cases q : xs.length + a.length ≤ sizeLine
    · rw [if_pos q]
      refine (hr a).congr ?_
      unfold ssSeq ssExpr sxMt
      rw [hv]
      simp only [Out.bind, hc, if_true]
      rw [(show saCons te saNil sp L = _ from h)]
      simp only [Out.of, vExtend, hL, eL, listOf]
      rw [if_pos (by simpa using q)]
      simp
    · rw [if_neg q]; trivial
theorem move_run [RF e] {i k : Nat} {xs : List α} (hs : sp[i]? = some (some (.ref k))) (hL : L[k]? = some (.lst (xs.map e))) : sxMove i sp L = .ok (eL e xs) (L.set k .dead) := by
  unfold sxMove
  rw [hs]
  simp only [hL]
  rw [if_pos (belows_map xs)]; rfl
theorem gv_retMove [RF e] {i k : Nat} {xs : List α} {x : τ} (hs : sp[i]? = some (some (.ref k))) (hL : L[k]? = some (.lst (xs.map e))) (hJ : J x (.rt (eL e xs) (L.set k .dead))) : GV (ssSeq (ssRet (sxMove i)) r) sp L (.ok x) J := by
  show J x _
  unfold ssSeq ssRet
  rw [move_run hs hL]; exact hJ
theorem gv_setMove [RF e] {i j k : Nat} {xs : List α} (hs : sp[i]? = some (some (.ref k))) (hL : L[k]? = some (.lst (xs.map e))) (hr : GV r (sp.set j (some (eL e xs))) (L.set k .dead) o J) : GV (ssSeq (ssSet j (sxMove i)) r) sp L o J := hr.congr (by
  unfold ssSeq ssSet
  rw [move_run hs hL])
theorem gv_frz [RF e] {i k : Nat} {xs : List α} (hs : sp[i]? = some (some (.ref k))) (hL : L[k]? = some (.lst (xs.map e))) (hr : GV t (sp.set i (some (eL e xs))) (L.set k .dead) o J) : GV (ssFrz i t) sp L o J := hr.congr (by
  unfold ssFrz
  rw [move_run hs hL])
theorem gv_frzS [RF e] {i k : Nat} {xs : List α} (hs : sp[i]? = some (some (.ref k))) (hL : L[k]? = some (.lst (xs.map e))) (hr : GV (ssSeq t r) (sp.set i (some (eL e xs))) (L.set k .dead) o J) : GV (ssSeq (ssFrz i t) r) sp L o J := hr.congr (by
  unfold ssSeq ssFrz
  rw [move_run hs hL])
theorem gv_wpS {vs : List Nat} (hr : GV (ssSeq t r) (wipeP sp vs) L o J) : GV (ssSeq (ssWp vs t) r) sp L o J := hr.congr rfl
/-! a list's item changed -/
theorem gv_sub {i k : Nat} {xs : List α} {ti : Sx} {oi : RR Int} {f : α → Int → RR τ} {g : α → Nat → RR τ} (hs : sp[i]? = some (some (.ref k))) (hL : L[k]? = some (.lst (xs.map e))) (ha : EV te sp L oa e) (hi : EV ti sp L oi eI)
    (hr : ∀ a j, GV r sp (L.set k (.lst ((xs.set j a).map e))) (g a j) J) : GV (ssSeq (ssSub (sxVar i) ti te) r) sp L (oa.bnd fun a => oi.bnd fun j => (RR.ofO (ixN xs.length j)).bnd fun j => g a j) J := by
  have hv : sxVar i sp L = .ok (.ref k) L := by unfold sxVar; rw [hs]
  cases oa with
  | stuck => trivial
  | exc x => exact ⟨sp, L, by unfold ssSeq ssSub; rw [(show te sp L = _ from ha)]⟩
  | ok a =>
    cases oi with
    | stuck => trivial
    | exc x => exact ⟨sp, L, by unfold ssSeq ssSub; rw [(show te sp L = _ from ha)]; simp only [bindS, hv]; rw [(show ti sp L = _ from hi)]⟩
    | ok j =>
      rw [RR.bnd_ok, RR.bnd_ok]
      cases hj : ixN xs.length j with
      | none => trivial
      | some j' =>
        refine (hr a j').congr ?_
        unfold ssSeq ssSub
        rw [(show te sp L = _ from ha)]
        simp only [bindS, hv]
        rw [(show ti sp L = _ from hi)]
        simp only [vSet, hL, eI, List.length_map, hj, Option.map_some, List.map_set]
theorem gv_augsub {i k : Nat} {xs : List Int} {ov : V2} {ti : Sx} {oi o1 : RR Int} {op : Int → Int → Int} {g : Int → Int → Nat → RR τ} (hop : O2 ov eI eI eI fun a b => .ok (op a b)) (hs : sp[i]? = some (some (.ref k))) (hL : L[k]? = some (.lst (xs.map eI))) (hi : EV ti sp L oi eI) (ha : EV te sp L o1 eI)
    (hr : ∀ x a j, GV r sp (L.set k (.lst ((xs.set j (op x a)).map eI))) (g x a j) J) : GV (ssSeq (ssAugSub ov (sxVar i) ti te) r) sp L (oi.bnd fun j => (RR.ofO (atI xs j)).bnd fun x => o1.bnd fun a => (RR.ofO (ixN xs.length j)).bnd fun j => g x a j) J := by
  have hv : sxVar i sp L = .ok (.ref k) L := by unfold sxVar; rw [hs]
  cases oi with
  | stuck => trivial
  | exc x => exact ⟨sp, L, by unfold ssSeq ssAugSub; rw [hv]; simp only [bindS]; rw [(show ti sp L = _ from hi)]⟩
  | ok j =>
    rw [RR.bnd_ok]
    cases hx : atI xs j with
    | none => trivial
    | some x =>
      have e1 : vItemL (.ref k) (.int j) L = some (.int x, L) := by
        show ((listOf L (.ref k)).bind fun xs => (atI xs j).map fun x => (x, L)) = _
        simp only [listOf, hL, Option.bind_some, atI_map, hx]; rfl
      cases o1 with
      | stuck => trivial
      | exc y => exact ⟨sp, L, by unfold ssSeq ssAugSub; rw [hv]; simp only [bindS]; rw [(show ti sp L = _ from hi)]; simp only [eI, e1, Out.of]; rw [(show te sp L = _ from ha)]⟩
      | ok a =>
        rw [RR.ofO_some, RR.bnd_ok, RR.bnd_ok]
        cases hj : ixN xs.length j with
        | none => trivial
        | some j' =>
          refine (hr x a j').congr ?_
          have e2 := hop x a L
          unfold ssSeq ssAugSub
          rw [hv]
          simp only [bindS]
          rw [(show ti sp L = _ from hi)]
          simp only [eI, e1, Out.of]
          rw [(show te sp L = _ from ha)]
          simp only [eI] at e2 ⊢
          simp only [e2, vSet, hL, List.length_map, hj, Option.map_some, List.map_set]
          rfl
theorem gv_aug {k : Nat} {x : Int} {ov : V2} {o1 : RR Int} {op : Int → Int → Int} {f : Int → RR τ} (hop : O2 ov eI eI eI fun a b => .ok (op a b)) (hs : sp[k]? = some (some (eI x))) (ha : EV te sp L o1 eI) (hr : ∀ a, GV r (sp.set k (some (eI (op x a)))) L (f a) J) :
    GV (ssSeq (ssAug k ov te) r) sp L (o1.bnd f) J := by
  cases o1 with
  | stuck => trivial
  | exc y => exact ⟨sp, L, by unfold ssSeq ssAug; simp only [hs]; rw [(show te sp L = _ from ha)]⟩
  | ok a => exact (hr a).congr (by
      have e2 := hop x a L
      unfold ssSeq ssAug; simp only [hs]; rw [(show te sp L = _ from ha)]; simp only [bindS, e2, Out.of])
theorem o_ipAdd : O2 vIpAdd eI eI eI fun a b => .ok (a + b) := fun _ _ _ => rfl
/-! loops -/
def foldR (step : α → σ → RR σ) : List α → σ → RR σ
  | [], s => .ok s
  | x :: xs, s => match step x s with
    | .ok s' => foldR step xs s'
    | .exc x => .exc x
    | .stuck => .stuck
def forR (step : α → σ → RR (Rz σ ρ)) : List α → σ → RR (Rz σ ρ)
  | [], s => .ok (.nx s)
  | x :: xs, s => match step x s with
    | .ok (.nx s') => forR step xs s'
    | .ok (.ct s') => forR step xs s'
    | .ok (.bk s') => .ok (.nx s')
    | .ok (.rt v) => .ok (.rt v)
    | .exc x => .exc x
    | .stuck => .stuck
def forK (f : σ → RR τ) (g : ρ → τ) : Rz σ ρ → RR τ
  | .nx s => f s
  | .rt v => .ok (g v)
  | _ => .stuck
/-- how a loop's body ends -/
def JS (A : σ → Sl × Sto) : σ → SOut → Prop := fun s out => out = .nx (A s).1 (A s).2 ∨ out = .ct (A s).1 (A s).2
def JB (A : σ → Sl × Sto) (er : ρ → PV) : Rz σ ρ → SOut → Prop := fun z out => match z with
  | .nx s => out = .nx (A s).1 (A s).2
  | .ct s => out = .ct (A s).1 (A s).2
  | .bk s => out = .bk (A s).1 (A s).2
  | .rt v => ∃ L', out = .rt (er v) L'
theorem gv_end {vs : List Nat} {J' : τ → SOut → Prop} (h : GV t sp L o J') (hJ : ∀ (x : τ) out, J' x out → J x (match out with
    | .nx sp' S' => .nx (wipeP sp' vs) S'
    | .ct sp' S' => .ct (wipeP sp' vs) S'
    | .bk sp' S' => .bk (wipeP sp' vs) S'
    | o => o)) : GV (ssEnd vs t) sp L o J := by
  cases o with
  | stuck => trivial
  | exc x =>
    obtain ⟨sp', L', e⟩ := h
    exact ⟨sp', L', by unfold ssEnd; rw [e]⟩
  | ok r =>
    have := hJ r _ h
    show J r (ssEnd vs t sp L)
    unfold ssEnd
    exact this
/-- .. with slots forgotten -/
def JSe (vs : List Nat) (A : σ → Sl × Sto) : σ → SOut → Prop := fun s out => ∃ sp' L', (out = .nx sp' L' ∨ out = .ct sp' L') ∧ A s = (wipeP sp' vs, L')
def JBe (vs : List Nat) (A : σ → Sl × Sto) (er : ρ → PV) : Rz σ ρ → SOut → Prop := fun z out => match z with
  | .nx s => ∃ sp' L', out = .nx sp' L' ∧ A s = (wipeP sp' vs, L')
  | .ct s => ∃ sp' L', out = .ct sp' L' ∧ A s = (wipeP sp' vs, L')
  | .bk s => ∃ sp' L', out = .bk sp' L' ∧ A s = (wipeP sp' vs, L')
  | .rt v => ∃ L', out = .rt (er v) L'
theorem gv_endS {vs : List Nat} {A : σ → Sl × Sto} {o : RR σ} (h : GV t sp L o (JSe vs A)) : GV (ssEnd vs t) sp L o (JS A) := gv_end h fun s out ⟨sp', L', e, ea⟩ => by
  rcases e with e | e
  · subst e; exact .inl (by rw [ea])
  · subst e; exact .inr (by rw [ea])
theorem gv_endB {vs : List Nat} {A : σ → Sl × Sto} {o : RR (Rz σ ρ)} (h : GV t sp L o (JBe vs A er)) : GV (ssEnd vs t) sp L o (JB A er) := gv_end h fun z out q => by
  cases z with
  | nx s => obtain ⟨sp', L', e, ea⟩ := q; subst e; show SOut.nx _ _ = _; rw [ea]
  | ct s => obtain ⟨sp', L', e, ea⟩ := q; subst e; show SOut.ct _ _ = _; rw [ea]
  | bk s => obtain ⟨sp', L', e, ea⟩ := q; subst e; show SOut.bk _ _ = _; rw [ea]
  | rt v => obtain ⟨L', e⟩ := q; subst e; exact ⟨L', rfl⟩
/-- .. and things -/
def JSl (n : Nat) (vs : List Nat) (A : σ → Sl × Sto) : σ → SOut → Prop := fun s out => ∃ sp' L', (out = .nx sp' L' ∨ out = .ct sp' L') ∧ scopeP n vs sp' L' = some (A s)
def JBl (n : Nat) (vs : List Nat) (A : σ → Sl × Sto) (er : ρ → PV) : Rz σ ρ → SOut → Prop := fun z out => match z with
  | .nx s => ∃ sp' L', out = .nx sp' L' ∧ scopeP n vs sp' L' = some (A s)
  | .ct s => ∃ sp' L', out = .ct sp' L' ∧ scopeP n vs sp' L' = some (A s)
  | .bk s => ∃ sp' L', out = .bk sp' L' ∧ scopeP n vs sp' L' = some (A s)
  | .rt v => ∃ L', out = .rt (er v) L'
theorem gv_locS {vs : List Nat} {A : σ → Sl × Sto} {o : RR σ} (h : GV t sp L o (JSl L.length vs A)) : GV (ssLoc vs t) sp L o (JS A) := by
  cases o with
  | stuck => trivial
  | exc x => obtain ⟨sp', L', e⟩ := h; exact ⟨sp', L', by unfold ssLoc; rw [e]⟩
  | ok s =>
    obtain ⟨sp', L', e, ea⟩ := h
    show JS A s (ssLoc vs t sp L)
    unfold ssLoc
    rcases e with e | e
    · rw [e]; simp only [ea]; exact .inl rfl
    · rw [e]; simp only [ea]; exact .inr rfl
theorem gv_locB {vs : List Nat} {A : σ → Sl × Sto} {o : RR (Rz σ ρ)} (h : GV t sp L o (JBl L.length vs A er)) : GV (ssLoc vs t) sp L o (JB A er) := by
  cases o with
  | stuck => trivial
  | exc x => obtain ⟨sp', L', e⟩ := h; exact ⟨sp', L', by unfold ssLoc; rw [e]⟩
  | ok z =>
    show JB A er z (ssLoc vs t sp L)
    unfold ssLoc
    cases z with
    | nx s => obtain ⟨sp', L', e, ea⟩ := h; rw [e]; simp only [ea]; exact rfl
    | ct s => obtain ⟨sp', L', e, ea⟩ := h; rw [e]; simp only [ea]; exact rfl
    | bk s => obtain ⟨sp', L', e, ea⟩ := h; rw [e]; simp only [ea]; exact rfl
    | rt v => obtain ⟨L', e⟩ := h; rw [e]; exact ⟨L', rfl⟩
theorem forL_fold {tg : Sg} {b : Ss} {A : σ → Sl × Sto} {step : α → σ → RR σ} (hb : ∀ x s, ∃ sp1, tg (ea x) (A s).1 (A s).2 = some sp1 ∧ GV b sp1 (A s).2 (step x s) (JS A)) : ∀ (xs : List α) (s : σ), match foldR step xs s with
    | .ok s' => forL tg b (xs.map ea) (A s).1 (A s).2 = .nx (A s').1 (A s').2
    | .exc x => ∃ sp' L', forL tg b (xs.map ea) (A s).1 (A s).2 = .exc x sp' L'
    | .stuck => True
  | [], s => rfl
  | x :: xs, s => by
    obtain ⟨sp1, h1, h2⟩ := hb x s
    simp only [List.map_cons, forL, h1, foldR]
    cases hs : step x s with
    | stuck => trivial
    | exc y =>
      rw [hs] at h2
      obtain ⟨sp', L', e⟩ := h2
      exact ⟨sp', L', by rw [e]⟩
    | ok s' =>
      rw [hs] at h2
      have ih := forL_fold hb xs s'
      rcases (show JS A s' (b sp1 (A s).2) from h2) with e | e
      · rw [e]; exact ih
      · rw [e]; exact ih
theorem gv_for {tg : Sg} {b : Ss} {ti : Si} {A : σ → Sl × Sto} {s0 : σ} {step : α → σ → RR σ} {ol : RR (List α)} {f : σ → RR τ} (hi : IV ti sp L ol ea) (h0 : (sp, L) = A s0) (hb : ∀ x s, ∃ sp1, tg (ea x) (A s).1 (A s).2 = some sp1 ∧ GV b sp1 (A s).2 (step x s) (JS A))
    (hr : ∀ s, GV r (A s).1 (A s).2 (f s) J) : GV (ssSeq (ssFor ti tg b) r) sp L (ol.bnd fun xs => (foldR step xs s0).bnd f) J := by
  cases ol with
  | stuck => trivial
  | exc x => exact ⟨sp, L, by unfold ssSeq ssFor; rw [(show ti sp L = _ from hi)]⟩
  | ok xs =>
    rw [RR.bnd_ok]
    have h := forL_fold hb xs s0
    have e0 : ssFor ti tg b sp L = forL tg b (xs.map ea) (A s0).1 (A s0).2 := by
      unfold ssFor
      rw [(show ti sp L = _ from hi), ← h0]
    cases hf : foldR step xs s0 with
    | stuck => trivial
    | exc x =>
      rw [hf] at h
      obtain ⟨sp', L', e⟩ := h
      exact ⟨sp', L', by unfold ssSeq; rw [e0, e]⟩
    | ok s => rw [hf] at h; exact (hr s).congr (by unfold ssSeq; rw [e0, h])
theorem forL_for {tg : Sg} {b : Ss} {A : σ → Sl × Sto} {step : α → σ → RR (Rz σ ρ)} (hb : ∀ x s, ∃ sp1, tg (ea x) (A s).1 (A s).2 = some sp1 ∧ GV b sp1 (A s).2 (step x s) (JB A er)) : ∀ (xs : List α) (s : σ), match forR step xs s with
    | .ok (.nx s') => forL tg b (xs.map ea) (A s).1 (A s).2 = .nx (A s').1 (A s').2
    | .ok (.rt v) => ∃ L', forL tg b (xs.map ea) (A s).1 (A s).2 = .rt (er v) L'
    | .exc x => ∃ sp' L', forL tg b (xs.map ea) (A s).1 (A s).2 = .exc x sp' L'
    | _ => True
  | [], s => rfl
  | x :: xs, s => by
    obtain ⟨sp1, h1, h2⟩ := hb x s
    simp only [List.map_cons, forL, h1, forR]
    cases hs : step x s with
    | stuck => trivial
    | exc y =>
      rw [hs] at h2
      obtain ⟨sp', L', e⟩ := h2
      exact ⟨sp', L', by rw [e]⟩
    | ok z =>
      rw [hs] at h2
      cases z with
      | nx s' => rw [(show b sp1 (A s).2 = _ from h2)]; exact forL_for hb xs s'
      | ct s' => rw [(show b sp1 (A s).2 = _ from h2)]; exact forL_for hb xs s'
      | bk s' => rw [(show b sp1 (A s).2 = _ from h2)]
      | rt v => obtain ⟨L', e⟩ := (show ∃ L', b sp1 (A s).2 = .rt (er v) L' from h2); exact ⟨L', by rw [e]⟩
theorem gv_forB {tg : Sg} {b : Ss} {ti : Si} {A : σ → Sl × Sto} {s0 : σ} {step : α → σ → RR (Rz σ ρ)} {ol : RR (List α)} {f : σ → RR τ} {g : ρ → τ} (hi : IV ti sp L ol ea) (h0 : (sp, L) = A s0) (hb : ∀ x s, ∃ sp1, tg (ea x) (A s).1 (A s).2 = some sp1 ∧ GV b sp1 (A s).2 (step x s) (JB A er))
    (hr : ∀ s, GV r (A s).1 (A s).2 (f s) J) (hJ : ∀ v L', J (g v) (.rt (er v) L')) : GV (ssSeq (ssFor ti tg b) r) sp L (ol.bnd fun xs => (forR step xs s0).bnd (forK f g)) J := by
  cases ol with
  | stuck => trivial
  | exc x => exact ⟨sp, L, by unfold ssSeq ssFor; rw [(show ti sp L = _ from hi)]⟩
  | ok xs =>
    rw [RR.bnd_ok]
    have h := forL_for hb xs s0
    have e0 : ssFor ti tg b sp L = forL tg b (xs.map ea) (A s0).1 (A s0).2 := by
      unfold ssFor
      rw [(show ti sp L = _ from hi), ← h0]
    cases hf : forR step xs s0 with
    | stuck => trivial
    | exc x =>
      rw [hf] at h
      obtain ⟨sp', L', e⟩ := h
      exact ⟨sp', L', by unfold ssSeq; rw [e0, e]⟩
    | ok z =>
      rw [hf] at h
      cases z with
      | nx s => exact (hr s).congr (by unfold ssSeq; rw [e0, (show forL _ _ _ _ _ = _ from h)])
      | rt v =>
        obtain ⟨L', e⟩ := (show ∃ L', forL _ _ _ _ _ = .rt (er v) L' from h)
        show J (g v) (ssSeq _ _ _ _)
        unfold ssSeq
        rw [e0, e]; exact hJ v L'
      | ct s => trivial
      | bk s => trivial
def whR (c : σ → RR Bool) (step : σ → RR (Rz σ ρ)) : Nat → σ → RR (Rz σ ρ)
  | 0, _ => .stuck
  | n + 1, s => match c s with
    | .ok true => match step s with
      | .ok (.nx s') => whR c step n s'
      | .ok (.ct s') => whR c step n s'
      | .ok (.bk s') => .ok (.nx s')
      | .ok (.rt v) => .ok (.rt v)
      | .exc x => .exc x
      | .stuck => .stuck
    | .ok false => .ok (.nx s)
    | .exc x => .exc x
    | .stuck => .stuck
theorem whileN_R {c : St'} {b : Ss} {A : σ → Sl × Sto} {cn : σ → RR Bool} {step : σ → RR (Rz σ ρ)} (hc : ∀ s, TV c (A s).1 (A s).2 (cn s)) (hb : ∀ s, GV b (A s).1 (A s).2 (step s) (JB A er)) : ∀ (n : Nat) (s : σ), match whR cn step n s with
    | .ok (.nx s') => whileN c b n (A s).1 (A s).2 = .nx (A s').1 (A s').2
    | .ok (.rt v) => ∃ L', whileN c b n (A s).1 (A s).2 = .rt (er v) L'
    | .exc x => ∃ sp' L', whileN c b n (A s).1 (A s).2 = .exc x sp' L'
    | _ => True
  | 0, s => trivial
  | n + 1, s => by
    have h1 := hc s
    have h2 := hb s
    simp only [whR, whileN]
    cases hcs : cn s with
    | stuck => trivial
    | exc x => rw [hcs] at h1; exact ⟨_, _, by rw [(show c _ _ = _ from h1)]⟩
    | ok k =>
      rw [hcs] at h1
      rw [(show c _ _ = _ from h1)]
      cases k with
      | false => simp
      | true =>
        simp only [bindS, if_true]
        cases hs : step s with
        | stuck => trivial
        | exc y =>
          rw [hs] at h2
          obtain ⟨sp', L', e⟩ := h2
          exact ⟨sp', L', by rw [e]⟩
        | ok z =>
          rw [hs] at h2
          cases z with
          | nx s' => rw [(show b _ _ = _ from h2)]; exact whileN_R hc hb n s'
          | ct s' => rw [(show b _ _ = _ from h2)]; exact whileN_R hc hb n s'
          | bk s' => rw [(show b _ _ = _ from h2)]
          | rt v => obtain ⟨L', e⟩ := (show ∃ L', b _ _ = .rt (er v) L' from h2); exact ⟨L', by rw [e]⟩
theorem gv_while {n : Nat} {c : St'} {b : Ss} {A : σ → Sl × Sto} {s0 : σ} {cn : σ → RR Bool} {step : σ → RR (Rz σ ρ)} {f : σ → RR τ} {g : ρ → τ} (h0 : (sp, L) = A s0) (hc : ∀ s, TV c (A s).1 (A s).2 (cn s)) (hb : ∀ s, GV b (A s).1 (A s).2 (step s) (JB A er))
    (hr : ∀ s, GV r (A s).1 (A s).2 (f s) J) (hJ : ∀ v L', J (g v) (.rt (er v) L')) : GV (ssSeq (ssWhile n c b) r) sp L ((whR cn step n s0).bnd (forK f g)) J := by
  have h := whileN_R hc hb n s0
  have e0 : ssWhile n c b sp L = whileN c b n (A s0).1 (A s0).2 := by
    unfold ssWhile; rw [← h0]
  cases hf : whR cn step n s0 with
  | stuck => trivial
  | exc x =>
    rw [hf] at h
    obtain ⟨sp', L', e⟩ := h
    exact ⟨sp', L', by unfold ssSeq; rw [e0, e]⟩
  | ok z =>
    rw [hf] at h
    cases z with
    | nx s => exact (hr s).congr (by unfold ssSeq; rw [e0, (show whileN _ _ _ _ _ = _ from h)])
    | rt v =>
      obtain ⟨L', e⟩ := (show ∃ L', whileN _ _ _ _ _ = .rt (er v) L' from h)
      show J (g v) (ssSeq _ _ _ _)
      unfold ssSeq
      rw [e0, e]; exact hJ v L'
    | ct s => trivial
    | bk s => trivial
/-! defs -/
def exOk (x : EX) : Bool := x.fs.all fun q => below 0 q.2
def RR.san {α : Type} : RR α → RR α
  | .exc x => if exOk x = true then .exc x else .stuck
  | o => o
@[simp] theorem RR.san_ok {α : Type} (a : α) : RR.san (.ok a) = .ok a := rfl
def JF (er : ρ → PV) : ρ → SOut → Prop := fun v out => (∃ L', out = .rt (er v) L') ∨ ∃ sp' L', out = .nx sp' L' ∧ er v = .non
theorem thawF_ok {S : Sto} {n f : Nat} : ∀ {fs : List (Str × PV)}, (fs.all fun q => below 0 q.2) = true → thawF S n f fs = some fs
  | [], _ => rfl
  | (k, x) :: fs, h => by
    simp only [List.all_cons, Bool.and_eq_true] at h
    simp only [thawF, thaw, if_pos h.1, thawF_ok h.2, Option.map_some]
theorem rv_fn [RF er] {n : Nat} {t : Ss} {as : List PV} {o : RR ρ} (hb : belows 0 as = true) (h : GV t (startP n as) [] o (JF er)) : RV (pureF (bodyF n t) as) o.san er := by
  cases o with
  | stuck => trivial
  | exc x =>
    obtain ⟨sp', L', e⟩ := h
    show RV _ (if exOk x = true then .exc x else .stuck) er
    by_cases hx : exOk x = true
    · rw [if_pos hx]
      show pureF (bodyF n t) as = .exc x
      unfold pureF bodyF
      rw [if_pos hb, e]
      simp only [thawE, thawF_ok hx, Option.map_some]
    · rw [if_neg hx]; trivial
  | ok v =>
    show pureF (bodyF n t) as = .ok (er v)
    unfold pureF bodyF
    rw [if_pos hb]
    rcases h with ⟨L', e⟩ | ⟨sp', L', e, q⟩
    · rw [e]
      simp only [thaw, if_pos (RF.b (e := er) v)]
    · rw [e]
      simp only [thaw, q]; rfl
theorem jf_rt {v : ρ} {L : Sto} : JF er v (.rt (er v) L) := .inl ⟨L, rfl⟩
end
end MX

end

section
/-! Typed readings: forms where the parts cannot fail. -/
namespace MX
open PySem PySem.Spec PyProof.Rows L2

section
variable {τ α β γ δ σ ρ ε : Type} {sp : Sl} {L : Sto} {J : τ → SOut → Prop} {e : α → PV} {ea : α → PV} {eb : β → PV} {ec : γ → PV} {ed : δ → PV} {eg : ε → PV} {er : ρ → PV} {te ta tb tc td tg' : Sx} {oa : RR α} {ob : RR β} {o : RR τ} {r t u : Ss} {a : α} {b : β} {c : γ} {d : δ} {g' : ε}
theorem ev_1t {o : V1} {g : α → γ} (ho : O1 o ea ec fun a => .ok (g a)) (ha : EV ta sp L (.ok a) ea) : EV (sx1 o ta) sp L (.ok (g a)) ec := ev_1 ho ha
/-- total parts, the operator may fail -/
theorem ev_2p {o : V2} {f : α → β → RR γ} (ho : O2 o ea eb ec f) (ha : EV ta sp L (.ok a) ea) (hb : EV tb sp L (.ok b) eb) : EV (sx2 o ta tb) sp L (f a b) ec := ev_2 ho ha hb
theorem ev_n1t {o : VN} {g : α → γ} (ho : ON o (fun a => [ea a]) ec fun a => .ok (g a)) (ha : EV ta sp L (.ok a) ea) : EV (sxN o (saCons ta saNil)) sp L (.ok (g a)) ec := ev_n1 ho ha
theorem ev_n1p {o : VN} {f : α → RR γ} (ho : ON o (fun a => [ea a]) ec f) (ha : EV ta sp L (.ok a) ea) : EV (sxN o (saCons ta saNil)) sp L (f a) ec := ev_n1 ho ha
theorem ev_n2t {o : VN} {g : α → β → γ} (ho : ON o (fun p : α × β => [ea p.1, eb p.2]) ec fun p => .ok (g p.1 p.2)) (ha : EV ta sp L (.ok a) ea) (hb : EV tb sp L (.ok b) eb) : EV (sxN o (saCons ta (saCons tb saNil))) sp L (.ok (g a b)) ec := ev_n2 (f := fun a b => .ok (g a b)) ho ha hb
theorem ev_call1t {p : List PV → RR PV} {f : α → RR γ} (ho : ∀ a, RV (p [ea a]) (f a) ec) (ha : EV ta sp L (.ok a) ea) : EV (sxCall 1 (liftP p) (saCons ta saNil)) sp L (f a) ec := ev_call1 ho ha
theorem ev_call2t {p : List PV → RR PV} {f : α → β → RR γ} (ho : ∀ a b, RV (p [ea a, eb b]) (f a b) ec) (ha : EV ta sp L (.ok a) ea) (hb : EV tb sp L (.ok b) eb) : EV (sxCall 2 (liftP p) (saCons ta (saCons tb saNil))) sp L (f a b) ec := ev_call2 ho ha hb
theorem ev_call3t {p : List PV → RR PV} {f : α → β → δ → RR γ} (ho : ∀ a b c, RV (p [ea a, eb b, ed c]) (f a b c) ec) (ha : EV ta sp L (.ok a) ea) (hb : EV tb sp L (.ok b) eb) (hd : EV td sp L (.ok d) ed) : EV (sxCall 3 (liftP p) (saCons ta (saCons tb (saCons td saNil)))) sp L (f a b d) ec := ev_call3 ho ha hb hd
theorem ev_call4t {p : List PV → RR PV} {f : α → β → δ → ε → RR γ} (ho : ∀ a b c d, RV (p [ea a, eb b, ed c, eg d]) (f a b c d) ec) (ha : EV ta sp L (.ok a) ea) (hb : EV tb sp L (.ok b) eb) (hd : EV td sp L (.ok d) ed) (hg : EV tg' sp L (.ok g') eg) : EV (sxCall 4 (liftP p) (saCons ta (saCons tb (saCons td (saCons tg' saNil))))) sp L (f a b d g') ec := ev_call4 ho ha hb hd hg
theorem ev_call5t {ζ : Type} {z : ζ} {ez : ζ → PV} {tz : Sx} {p : List PV → RR PV} {f : α → β → δ → ε → ζ → RR γ} (ho : ∀ a b c d g, RV (p [ea a, eb b, ed c, eg d, ez g]) (f a b c d g) ec) (ha : EV ta sp L (.ok a) ea) (hb : EV tb sp L (.ok b) eb) (hd : EV td sp L (.ok d) ed) (hg : EV tg' sp L (.ok g') eg) (hz : EV tz sp L (.ok z) ez) : EV (sxCall 5 (liftP p) (saCons ta (saCons tb (saCons td (saCons tg' (saCons tz saNil)))))) sp L (f a b d g' z) ec := ev_call5 ho ha hb hd hg hz
theorem tv_nott {t : St'} {p : Bool} (ha : TV t sp L (.ok p)) : TV (stNot t) sp L (.ok (!p)) := tv_not ha
theorem ev_nott {p : Bool} (ha : EV ta sp L (.ok p) eB) : EV (sxNot ta) sp L (.ok (!p)) eB := ev_not ha
theorem ev_somet (h : EV ta sp L (.ok a) e) : EV ta sp L (.ok (some a)) (eO e) := ev_some h
theorem ev_att {k : Int} {g : α → γ} (ha : EV ta sp L (.ok a) ea) (h : ∀ a L, vItem (ea a) (.int k) L = some (ec (g a), L)) : EV (sx2 vItem ta (sxC (.int k))) sp L (.ok (g a)) ec := ev_at ha h
theorem ev_t2t (ha : EV ta sp L (.ok a) ea) (hb : EV tb sp L (.ok b) eb) : EV (sxN vTup (saCons ta (saCons tb saNil))) sp L (.ok (a, b)) (eT2 ea eb) := ev_t2 ha hb
theorem ev_t3t (ha : EV ta sp L (.ok a) ea) (hb : EV tb sp L (.ok b) eb) (hc : EV tc sp L (.ok c) ec) : EV (sxN vTup (saCons ta (saCons tb (saCons tc saNil)))) sp L (.ok (a, b, c)) (eT3 ea eb ec) := ev_t3 ha hb hc
theorem ev_t4t (ha : EV ta sp L (.ok a) ea) (hb : EV tb sp L (.ok b) eb) (hc : EV tc sp L (.ok c) ec) (hd : EV td sp L (.ok d) ed) : EV (sxN vTup (saCons ta (saCons tb (saCons tc (saCons td saNil))))) sp L (.ok (a, b, c, d)) (eT4 ea eb ec ed) := ev_t4 ha hb hc hd
theorem av_const {tr : Sa} {xs : List α} (ha : EV ta sp L (.ok a) e) (hr : AV tr sp L (.ok xs) (List.map e)) : AV (saCons ta tr) sp L (.ok (a :: xs)) (List.map e) := av_consm ha hr
theorem ev_tvt {tr : Sa} {xs : List α} (h : AV tr sp L (.ok xs) (List.map e)) : EV (sxN vTup tr) sp L (fitR xs) (eV e) := ev_tv h
theorem ev_llt {tr : Sa} {xs : List α} (h : AV tr sp L (.ok xs) (List.map e)) : EV (sxN vLst tr) sp L (fitR xs) (eL e) := ev_ll h
/-- a written row of at most so many things -/
theorem ev_tvk {tr : Sa} {xs : List α} (h : AV tr sp L (.ok xs) (List.map e)) (hz : Nat.ble xs.length 1000 = true) : EV (sxN vTup tr) sp L (.ok xs) (eV e) := by
  have := ev_tv h
  rwa [RR.bnd_ok, fitR_ok (Nat.le_trans (Nat.le_of_ble_eq_true hz) (by decide))] at this
theorem ev_llk {tr : Sa} {xs : List α} (h : AV tr sp L (.ok xs) (List.map e)) (hz : Nat.ble xs.length 1000 = true) : EV (sxN vLst tr) sp L (.ok xs) (eL e) := by
  have := ev_ll h
  rwa [RR.bnd_ok, fitR_ok (Nat.le_trans (Nat.le_of_ble_eq_true hz) (by decide))] at this
theorem ov_partt {i : Int} (h : EV ta sp L (.ok i) eI) : OV (soPart ta) sp L (.ok (some i)) := ov_part h
theorem ev_slt {l h : So} {xs : List α} {lo hi : Option Int} {E : List α → PV} (hE : ∀ xs lo hi L, vSl (E xs) lo hi L = some (E (cutN xs lo hi), L)) (ha : EV ta sp L (.ok xs) E) (hl : OV l sp L (.ok lo)) (hh : OV h sp L (.ok hi)) :
    EV (sxSl vSl ta l h) sp L (.ok (cutN xs lo hi)) E := ev_sl hE ha hl hh
theorem iv_range1t {i : Int} (h : EV ta sp L (.ok i) eI) : IV (siRange1 ta) sp L (rng1R i) eI := iv_range1 h
theorem iv_range2t {i j : Int} (h : EV ta sp L (.ok i) eI) (h2 : EV tb sp L (.ok j) eI) : IV (siRange2 ta tb) sp L (rng2R i j) eI := iv_range2 h h2
theorem iv_enumVt {l : List α} (h : EV ta sp L (.ok l) (eV e)) : IV (siEnum ta) sp L (.ok (enumN 0 l)) (eT2 eI e) := iv_enumV h
theorem iv_enumLt {l : List α} (h : EV ta sp L (.ok l) (eL e)) : IV (siEnum ta) sp L (.ok (enumN 0 l)) (eT2 eI e) := iv_enumL h
theorem iv_zipVt {l : List α} {m : List β} (h : EV ta sp L (.ok l) (eV ea)) (h2 : EV tb sp L (.ok m) (eV eb)) : IV (siZip ta tb) sp L (.ok (l.zip m)) (eT2 ea eb) := iv_zipV h h2
theorem iv_zipLt {l : List α} {m : List β} (h : EV ta sp L (.ok l) (eL ea)) (h2 : EV tb sp L (.ok m) (eL eb)) : IV (siZip ta tb) sp L (.ok (l.zip m)) (eT2 ea eb) := iv_zipL h h2
/-- a comprehension over what may fail, its parts cannot -/
theorem ev_lcp {ti : Si} {vs : List Nat} {t : Sg} {c : St'} {te : Sx} {p : α → Bool} {f : α → γ} {E : α → Sl} {o : RR (List α)} (hi : IV ti sp L o ea) (ht : ∀ x, t (ea x) (wipeP sp vs) L = some (E x)) (hc : ∀ x, TV c (E x) L (.ok (p x))) (he : ∀ x, EV te (E x) L (.ok (f x)) ec) :
    EV (sxLc fzL ti vs t c te) sp L (o.bnd fun l => fitR ((l.filter p).map f)) (eL ec) := by
  have h := ev_lc hi ht hc he
  cases o with
  | ok l => rw [RR.bnd_ok, lcR_t] at h; exact h
  | _ => exact h
theorem ev_lcpy {ti : Si} {vs : List Nat} {t : Sg} {te : Sx} {f : α → γ} {E : α → Sl} {o : RR (List α)} (hi : IV ti sp L o ea) (ht : ∀ x, t (ea x) (wipeP sp vs) L = some (E x)) (he : ∀ x, EV te (E x) L (.ok (f x)) ec) :
    EV (sxLc fzL ti vs t stYes te) sp L (o.bnd fun l => fitR (l.map f)) (eL ec) := by
  have h := ev_lcp (p := fun _ => true) hi ht (fun _ => tv_yes) he
  cases o with
  | ok l => rw [RR.bnd_ok, List.filter_eq_self.mpr (fun _ _ => rfl)] at h; exact h
  | _ => exact h
/-- a comprehension over what is there, its parts may fail -/
theorem ev_lcf {ti : Si} {vs : List Nat} {t : Sg} {c : St'} {te : Sx} {p : α → RR Bool} {f : α → RR γ} {E : α → Sl} {l : List α} (hi : IV ti sp L (.ok l) ea) (ht : ∀ x, t (ea x) (wipeP sp vs) L = some (E x)) (hc : ∀ x, TV c (E x) L (p x)) (he : ∀ x, EV te (E x) L (f x) ec) :
    EV (sxLc fzL ti vs t c te) sp L ((lcR p f l).bnd fitR) (eL ec) := ev_lc hi ht hc he
/-! a < b < c -/
theorem ev_chain {o o' : V2} {f : α → β → RR Bool} {g : β → γ → RR Bool} {oc : RR γ} (ho : O2 o ea eb eB f) (ho' : O2 o' eb ec eB g) (ha : EV ta sp L oa ea) (hb : EV tb sp L ob eb) (hc : EV tc sp L oc ec) :
    EV (sxChain o o' ta tb tc) sp L (oa.bnd fun a => ob.bnd fun b => (f a b).bnd fun k => if k = true then oc.bnd fun c => g b c else .ok false) eB := by
  cases oa with
  | stuck => trivial
  | exc x => show sxChain o o' ta tb tc sp L = _; unfold sxChain; rw [(show ta sp L = _ from ha)]
  | ok a =>
    cases ob with
    | stuck => trivial
    | exc x => show sxChain o o' ta tb tc sp L = _; unfold sxChain; rw [(show ta sp L = _ from ha)]; simp only [Out.bind]; rw [(show tb sp L = _ from hb)]
    | ok b =>
      rw [RR.bnd_ok, RR.bnd_ok]
      have h1 := ho a b L
      cases hf : f a b with
      | stuck => trivial
      | exc x => rw [hf] at h1; exact h1.elim
      | ok k =>
        rw [hf] at h1
        have e1 : o (ea a) (eb b) L = some (eB k, L) := h1
        rw [RR.bnd_ok]
        cases k with
        | false => show sxChain o o' ta tb tc sp L = _; unfold sxChain; rw [(show ta sp L = _ from ha)]; simp only [Out.bind]; rw [(show tb sp L = _ from hb)]; simp only [e1, Out.of, eB]
        | true =>
          have e2 : sxChain o o' ta tb tc sp L = (tc sp L).bind fun c S4 => Out.of (o' (eb b) c S4) := by
            unfold sxChain; rw [(show ta sp L = _ from ha)]; simp only [Out.bind]; rw [(show tb sp L = _ from hb)]; simp only [e1, Out.of, eB]
          rw [if_pos rfl]
          exact hc.run1 e2 fun c => by
            have h2 := ho' b c L
            cases hg : g b c with
            | ok z => rw [hg] at h2; show Out.of _ = _; rw [h2]
            | exc x => rw [hg] at h2; exact h2.elim
            | stuck => exact True.intro
theorem ev_chaint {o o' : V2} {f : α → β → Bool} {g : β → γ → Bool} (ho : O2 o ea eb eB fun a b => .ok (f a b)) (ho' : O2 o' eb ec eB fun a b => .ok (g a b)) (ha : EV ta sp L (.ok a) ea) (hb : EV tb sp L (.ok b) eb) (hc : EV tc sp L (.ok c) ec) :
    EV (sxChain o o' ta tb tc) sp L (.ok (f a b && g b c)) eB := by
  have h := ev_chain ho ho' ha hb hc
  simp only [RR.bnd_ok] at h
  cases hf : f a b <;> rw [hf] at h <;> exact h
/-! a local list that is read while it may still grow -/
theorem ev_refLen {i k : Nat} {xs : List α} (hs : sp[i]? = some (some (.ref k))) (hL : L[k]? = some (.lst (xs.map e))) : EV (sxN vLen (saCons (sxVar i) saNil)) sp L (.ok (xs.length : Int)) eI := by
  have hv : sxVar i sp L = .ok (.ref k) L := by unfold sxVar; rw [hs]
  show sxN vLen _ sp L = _
  unfold sxN saCons
  rw [hv]
  simp only [Out.bind, saNil, vLen, seqOf, hL, Option.map_some, Out.of, List.length_map]; rfl
theorem ev_refTuple {i k : Nat} {xs : List α} (hs : sp[i]? = some (some (.ref k))) (hL : L[k]? = some (.lst (xs.map e))) : EV (sxN vTuple (saCons (sxVar i) saNil)) sp L (.ok xs) (eV e) := by
  have hv : sxVar i sp L = .ok (.ref k) L := by unfold sxVar; rw [hs]
  show sxN vTuple _ sp L = _
  unfold sxN saCons
  rw [hv]
  simp only [Out.bind, saNil, vTuple, listOf, hL, Option.map_some, Out.of]; rfl
theorem ev_refItem {i k : Nat} {xs : List α} {ti : Sx} {oi : RR Int} (hs : sp[i]? = some (some (.ref k))) (hL : L[k]? = some (.lst (xs.map e))) (hi : EV ti sp L oi eI) : EV (sx2 vItem (sxVar i) ti) sp L (oi.bnd fun j => .ofO (atI xs j)) e := by
  have hv : sxVar i sp L = .ok (.ref k) L := by unfold sxVar; rw [hs]
  refine hi.run1 (k := fun b S2 => Out.of (vItem (.ref k) b S2)) (by unfold sx2; rw [hv]) fun j => ?_
  cases h : atI xs j with
  | none => trivial
  | some x =>
    show Out.of (vItem (.ref k) (.int j) L) = _
    show Out.of (match seqOf L (.ref k) with
      | some xs => (atI xs j).map fun x => (x, L)
      | none => none) = _
    simp only [seqOf, hL, atI_map, h, Option.map_some, Out.of]
theorem dOf_ref [DecidableEq α] {n : Nat} [DE e n] {k : Nat} {xs : List α} (hL : L[k]? = some (.lst (xs.map e))) : dOf L (.ref k) = some (.list (dts (xs.map e))) := by
  show (match L[k]? with
    | some (.lst xs) => (toDs xs).map PyData.list
    | _ => none) = _
  rw [hL]
  show (toDs (xs.map e)).map PyData.list = _
  rw [toDs_of xs]; rfl
theorem ev_refIn [DecidableEq α] {n : Nat} [DE e n] {i k : Nat} {xs : List α} (hs : sp[i]? = some (some (.ref k))) (hL : L[k]? = some (.lst (xs.map e))) (ha : EV ta sp L oa e) (hn : n < 64 := by decide) : EV (sx2 vIn ta (sxVar i)) sp L (oa.bnd fun a => .ok (inB a xs)) eB := by
  have hv : sxVar i sp L = .ok (.ref k) L := by unfold sxVar; rw [hs]
  refine ha.run1 (k := fun a S1 => (sxVar i sp S1).bind fun b S2 => Out.of (vIn a b S2)) rfl fun a => ?_
  have h2 : SeqAt.shaped (.tuple (dts (xs.map e))) = true := shaped_of (e := eV e) (n := n + 1) hn xs
  show (sxVar i sp L).bind _ = _
  rw [hv]
  show Out.of (vIn (e a) (.ref k) L) = _
  unfold vIn
  rw [inAns_seq (dOf_of a L) (.inr (dOf_ref hL)) (shaped_of (Nat.le_of_lt hn) a) h2, any_of]; rfl
theorem ev_refNi [DecidableEq α] {n : Nat} [DE e n] {i k : Nat} {xs : List α} (hs : sp[i]? = some (some (.ref k))) (hL : L[k]? = some (.lst (xs.map e))) (ha : EV ta sp L oa e) (hn : n < 64 := by decide) : EV (sx2 vNotIn ta (sxVar i)) sp L (oa.bnd fun a => .ok (!inB a xs)) eB := by
  have hv : sxVar i sp L = .ok (.ref k) L := by unfold sxVar; rw [hs]
  refine ha.run1 (k := fun a S1 => (sxVar i sp S1).bind fun b S2 => Out.of (vNotIn a b S2)) rfl fun a => ?_
  have h2 : SeqAt.shaped (.tuple (dts (xs.map e))) = true := shaped_of (e := eV e) (n := n + 1) hn xs
  show (sxVar i sp L).bind _ = _
  rw [hv]
  show Out.of (vNotIn (e a) (.ref k) L) = _
  unfold vNotIn
  rw [inAns_seq (dOf_of a L) (.inr (dOf_ref hL)) (shaped_of (Nat.le_of_lt hn) a) h2, any_of]; rfl
/-! blocks -/
theorem gv_exprt (ha : EV te sp L (.ok a) ea) (hr : GV r sp L o J) : GV (ssSeq (ssExpr te) r) sp L o J := gv_expr (f := fun _ => o) ha fun _ => hr
theorem gv_rett {x : τ} (ha : EV te sp L (.ok a) ea) (hJ : J x (.rt (ea a) L)) : GV (ssSeq (ssRet te) r) sp L (.ok x) J := by
  show J x _; unfold ssSeq ssRet; rw [(show te sp L = _ from ha)]; exact hJ
theorem gv_ift {c : St'} {p : Bool} {o1 o2 : RR τ} (hc : TV c sp L (.ok p)) (h1 : GV (ssSeq t r) sp L o1 J) (h2 : GV (ssSeq u r) sp L o2 J) : GV (ssSeq (ssIf c t u) r) sp L (if p = true then o1 else o2) J := gv_if hc h1 h2
theorem gv_asgt {tg : Sg} {E : Sl} (ha : EV te sp L (.ok a) ea) (ht : tg (ea a) sp L = some E) (hr : GV r E L o J) : GV (ssSeq (ssAsg te tg) r) sp L o J := hr.congr (by
  unfold ssSeq ssAsg; rw [(show te sp L = _ from ha)]; simp only [bindS]; rw [ht])
theorem gv_part {i j : Nat} (ha : EV ta sp L (.ok a) ea) (hb : EV tb sp L (.ok b) eb) (hr : GV r ((sp.set i (some (ea a))).set j (some (eb b))) L o J) :
    GV (ssSeq (ssPar i j (saCons ta (saCons tb saNil))) r) sp L o J := hr.congr (by
  have h : saCons ta (saCons tb saNil) sp L = .ok [ea a, eb b] L := av_cons ha (av_cons hb av_nil)
  unfold ssSeq ssPar; rw [h])
theorem gv_parNewt {i j : Nat} (ha : EV ta sp L (.ok a) ea) (hr : GV r ((sp.set i (some (ea a))).set j (some (.ref L.length))) (L ++ [.lst (([] : List β).map eb)]) o J) :
    GV (ssSeq (ssPar i j (saCons ta (saCons (sxN vNew saNil) saNil))) r) sp L o J := hr.congr (by
  unfold ssSeq ssPar saCons; rw [(show ta sp L = _ from ha)]; rfl)
theorem gv_appt {i k : Nat} {xs : List α} (hs : sp[i]? = some (some (.ref k))) (hL : L[k]? = some (.lst (xs.map e))) (ha : EV te sp L (.ok a) e) (hr : GV r sp (L.set k (.lst ((xs ++ [a]).map e))) o J) :
    GV (ssSeq (ssExpr (sxMt isL vAppend (sxVar i) (saCons te saNil))) r) sp L (if xs.length < sizeLine then o else .stuck) J := by
  have hv : sxVar i sp L = .ok (.ref k) L := by unfold sxVar; rw [hs]
  have hc : isL L (.ref k) = true := by simp [isL, listOf, hL]
  have h : saCons te saNil sp L = .ok [e a] L := av_cons ha av_nil
  by_cases q : xs.length < sizeLine
  · rw [if_pos q]
    refine hr.congr ?_
    unfold ssSeq ssExpr sxMt
    rw [hv]
    simp only [Out.bind, hc, if_true]
    rw [h]
    simp only [Out.of, vAppend, hL]
    rw [if_pos (by simpa using q)]
    simp
  · rw [if_neg q]; trivial
theorem gv_extt {i k : Nat} {xs ys : List α} (hs : sp[i]? = some (some (.ref k))) (hL : L[k]? = some (.lst (xs.map e))) (ha : EV te sp L (.ok ys) (eL e)) (hr : GV r sp (L.set k (.lst ((xs ++ ys).map e))) o J) :
    GV (ssSeq (ssExpr (sxMt isL vExtend (sxVar i) (saCons te saNil))) r) sp L (if xs.length + ys.length ≤ sizeLine then o else .stuck) J := by
  have hv : sxVar i sp L = .ok (.ref k) L := by unfold sxVar; rw [hs]
  have hc : isL L (.ref k) = true := by simp [isL, listOf, hL]
  have h : saCons te saNil sp L = .ok [eL e ys] L := av_cons ha av_nil
  by_cases q : xs.length + ys.length ≤ sizeLine
  · rw [if_pos q]
    refine hr.congr ?_
    unfold ssSeq ssExpr sxMt
    rw [hv]
    simp only [Out.bind, hc, if_true]
    rw [h]
    simp only [Out.of, vExtend, hL, eL, listOf]
    rw [if_pos (by simpa using q)]
    simp
  · rw [if_neg q]; trivial
theorem gv_fort {tg : Sg} {b : Ss} {ti : Si} {A : σ → Sl × Sto} {s0 : σ} {step : α → σ → RR σ} {xs : List α} {f : σ → RR τ} (hi : IV ti sp L (.ok xs) ea) (h0 : (sp, L) = A s0) (hb : ∀ x s, ∃ sp1, tg (ea x) (A s).1 (A s).2 = some sp1 ∧ GV b sp1 (A s).2 (step x s) (JS A))
    (hr : ∀ s, GV r (A s).1 (A s).2 (f s) J) : GV (ssSeq (ssFor ti tg b) r) sp L ((foldR step xs s0).bnd f) J := gv_for hi h0 hb hr
theorem gv_forBt {tg : Sg} {b : Ss} {ti : Si} {A : σ → Sl × Sto} {s0 : σ} {step : α → σ → RR (Rz σ ρ)} {xs : List α} {f : σ → RR τ} {g : ρ → τ} (hi : IV ti sp L (.ok xs) ea) (h0 : (sp, L) = A s0) (hb : ∀ x s, ∃ sp1, tg (ea x) (A s).1 (A s).2 = some sp1 ∧ GV b sp1 (A s).2 (step x s) (JB A er))
    (hr : ∀ s, GV r (A s).1 (A s).2 (f s) J) (hJ : ∀ v L', J (g v) (.rt (er v) L')) : GV (ssSeq (ssFor ti tg b) r) sp L ((forR step xs s0).bnd (forK f g)) J := gv_forB hi h0 hb hr hJ
end
end MX

end

section
/-! Typed readings: further forms. -/
namespace MX
open PySem PySem.Spec PyProof.Rows L2
section
variable {τ α β γ σ ρ : Type} {sp sp2 : Sl} {L L2' : Sto} {J : τ → SOut → Prop} {e : α → PV} {er : ρ → PV} {te : Sx} {o : RR τ} {r : Ss}
theorem gv_retp {o : RR ρ} (ha : EV te sp L o er) : GV (ssSeq (ssRet te) r) sp L o (JF er) := by
  have h := gv_ret (r := r) (J := JF er) (g := fun a => a) ha fun a => jf_rt
  cases o <;> exact h
theorem gv_augt {k : Nat} {x a : Int} {ov : V2} {op : Int → Int → Int} (hop : O2 ov eI eI eI fun a b => .ok (op a b)) (hs : sp[k]? = some (some (eI x))) (ha : EV te sp L (.ok a) eI) (hr : GV r (sp.set k (some (eI (op x a)))) L o J) :
    GV (ssSeq (ssAug k ov te) r) sp L o J := hr.congr (by
      have e2 := hop x a L
      unfold ssSeq ssAug; simp only [hs]; rw [(show te sp L = _ from ha)]; simp only [bindS, e2, Out.of])
theorem slb_nil {n : Nat} : slB n [] = true := rfl
theorem slb_none {n : Nat} (h : slB n sp = true) : slB n (none :: sp) = true := h
theorem slb_v [RF e] {n : Nat} {a : α} (h : slB n sp = true) : slB n (some (e a) :: sp) = true := by
  show (below n (e a) && slB n sp) = true
  rw [below_mono (e a) (RF.b a), h]; rfl
theorem slb_r {n k : Nat} (hk : Nat.ble (k + 1) n = true) (h : slB n sp = true) : slB n (some (.ref k) :: sp) = true := by
  show (decide (k < n) && slB n sp) = true
  have hk' : k < n := Nat.le_of_ble_eq_true hk
  rw [decide_eq_true hk', h]; rfl
theorem bo_nil {n : Nat} : (([] : Sto).all (belowO n)) = true := rfl
theorem bo_d {n : Nat} (h : L.all (belowO n) = true) : ((SO.dead :: L).all (belowO n)) = true := h
theorem bo_l [RF e] {n : Nat} {l : List α} (h : L.all (belowO n) = true) : ((SO.lst (l.map e) :: L).all (belowO n)) = true := by
  show (belows n (l.map e) && L.all (belowO n)) = true
  rw [belows_mono _ (belows_map l), h]; rfl
theorem scope_some {n : Nat} {vs : List Nat} (h1 : wipeP sp vs = sp2) (h2 : L.take n = L2') (h3 : L2'.length = n) (h4 : slB n sp2 = true) (h5 : L2'.all (belowO n) = true) : scopeP n vs sp L = some (sp2, L2') := by
  unfold scopeP
  have hn : n ≤ L.length := by
    rw [← h2, List.length_take] at h3; omega
  rw [h1, h2, if_pos ⟨h4, hn, h5⟩]
end
end MX

end

section
/-! Order: sorted, max, keys that are rows. -/
namespace MX
open PySem PySem.Spec PyProof.Rows L2
/-- data in order -/
class OE {α : Type} (e : α → PV) (lt : outParam (α → α → Bool)) : Prop where
  ak : ∀ a b, PySem.W.alike (dt (e a)) (dt (e b)) = true
  lt : ∀ a b, PySem.W.dataLt (dt (e a)) (dt (e b)) = lt a b
def ltI (a b : Int) : Bool := decide (a < b)
def ltS (a b : W) : Bool := decide (a.1.cps.toList < b.1.cps.toList)
def ltP {α β : Type} [DecidableEq α] (l1 : α → α → Bool) (l2 : β → β → Bool) (a b : α × β) : Bool := if a.1 = b.1 then l2 a.2 b.2 else l1 a.1 b.1
def ltL {α : Type} [DecidableEq α] (lt : α → α → Bool) : List α → List α → Bool
  | [], [] => false
  | [], _ :: _ => true
  | _ :: _, [] => false
  | a :: l, b :: m => if a = b then ltL lt l m else lt a b
instance : OE eI ltI := ⟨fun _ _ => rfl, fun a b => PySem.W.dataLt_int a b⟩
instance : OE eS ltS := ⟨fun _ _ => rfl, fun a b => PySem.W.dataLt_str a.1 b.1⟩
theorem toks_step {α : Type} [DecidableEq α] {e : α → PV} {n : Nat} [DE e n] {lt : α → α → Bool} [OE e lt] (a b : α) (xs ys : List PyData) :
    PyProof.Rows.lexLt PyProof.Rows.itemOrd (PySem.W.keyToksAll (dt (e a) :: xs)) (PySem.W.keyToksAll (dt (e b) :: ys)) = if a = b then PyProof.Rows.lexLt PyProof.Rows.itemOrd (PySem.W.keyToksAll xs) (PySem.W.keyToksAll ys) else lt a b := by
  by_cases h : a = b
  · subst h
    rw [if_pos rfl]
    exact PySem.W.dataLt_all_yes (OE.ak (e := e) a a) (by rw [DE.eq (e := e)]; simp)
  · rw [if_neg h, ← OE.lt (e := e) a b]
    exact PySem.W.dataLt_all_no (OE.ak (e := e) a b) (by rw [DE.eq (e := e)]; simpa using h)
theorem ak_all {α : Type} {e : α → PV} {lt : α → α → Bool} [OE e lt] : ∀ (l m : List α), PySem.W.alikeAll (dts (l.map e)) (dts (m.map e)) = true
  | [], _ => by simp [dts, PySem.W.alikeAll]
  | _ :: _, [] => by simp [dts, PySem.W.alikeAll]
  | a :: l, b :: m => by simp [dts, PySem.W.alikeAll, OE.ak (e := e) a b, ak_all l m]
theorem lt_all {α : Type} [DecidableEq α] {e : α → PV} {n : Nat} [DE e n] {lt : α → α → Bool} [OE e lt] : ∀ (l m : List α), PyProof.Rows.lexLt PyProof.Rows.itemOrd (PySem.W.keyToksAll (dts (l.map e))) (PySem.W.keyToksAll (dts (m.map e))) = ltL lt l m
  | [], [] => by simp only [List.map_nil, dts, ltL]; exact PyProof.Rows.lex_irrefl _
  | [], b :: m => by
    simp only [List.map_nil, List.map_cons, dts, ltL, PySem.W.keyToksAll]
    rfl
  | a :: l, [] => by
    simp only [List.map_nil, List.map_cons, dts, ltL, PySem.W.keyToksAll]
    rfl
  | a :: l, b :: m => by
    simp only [List.map_cons, dts, ltL]
    rw [toks_step (e := e), lt_all (e := e) l m]
instance {α : Type} [DecidableEq α] {e : α → PV} {n : Nat} [DE e n] {lt : α → α → Bool} [OE e lt] : OE (eV e) (ltL lt) := ⟨fun l m => by
  simp only [eV, dt, PySem.W.alike]; exact ak_all l m, fun l m => by
  simp only [eV, dt]; rw [PySem.W.dataLt_tuple]; exact lt_all l m⟩
instance {α : Type} [DecidableEq α] {e : α → PV} {n : Nat} [DE e n] {lt : α → α → Bool} [OE e lt] : OE (eL e) (ltL lt) := ⟨fun l m => by
  simp only [eL, dt, PySem.W.alike]; exact ak_all l m, fun l m => by
  simp only [eL, dt]; rw [PySem.W.dataLt_list]; exact lt_all l m⟩
theorem toks_last {α : Type} [DecidableEq α] {e1 : α → PV} {n1 : Nat} [DE e1 n1] {l1 : α → α → Bool} [OE e1 l1] (a b : α) : PyProof.Rows.lexLt PyProof.Rows.itemOrd (PySem.W.keyToksAll [dt (e1 a)]) (PySem.W.keyToksAll [dt (e1 b)]) = l1 a b := by
  rw [toks_step (e := e1)]
  split
  · rename_i h
    subst h
    rw [PyProof.Rows.lex_irrefl, ← OE.lt (e := e1)]
    exact (PyProof.Rows.lex_irrefl _).symm
  · rfl
section
variable {α β γ δ : Type} [DecidableEq α] [DecidableEq β] [DecidableEq γ] {e1 : α → PV} {e2 : β → PV} {e3 : γ → PV} {n1 n2 n3 : Nat} [DE e1 n1] [DE e2 n2] [DE e3 n3]
  {l1 : α → α → Bool} {l2 : β → β → Bool} {l3 : γ → γ → Bool} [OE e1 l1] [OE e2 l2] [OE e3 l3]
instance : OE (eT2 e1 e2) (ltP l1 l2) := ⟨fun p q => by simp [eT2, dt, dts, PySem.W.alike, PySem.W.alikeAll, OE.ak (e := e1) p.1 q.1, OE.ak (e := e2) p.2 q.2], fun p q => by
  simp only [eT2, dt, dts]
  rw [PySem.W.dataLt_tuple, toks_step (e := e1), toks_last (e1 := e2)]; rfl⟩
instance : OE (eT3 e1 e2 e3) (ltP l1 (ltP l2 l3)) := ⟨fun p q => by simp [eT3, dt, dts, PySem.W.alike, PySem.W.alikeAll, OE.ak (e := e1) p.1 q.1, OE.ak (e := e2) p.2.1 q.2.1, OE.ak (e := e3) p.2.2 q.2.2], fun p q => by
  simp only [eT3, dt, dts]
  rw [PySem.W.dataLt_tuple, toks_step (e := e1), toks_step (e := e2), toks_last (e1 := e3)]; rfl⟩
end
/-! laws of the order -/
section
variable {α : Type} [DecidableEq α] {e : α → PV} {n : Nat} [DE e n] {lt : α → α → Bool} [OE e lt]
theorem lt_irr (e : α → PV) {n : Nat} [DE e n] {lt : α → α → Bool} [OE e lt] (a : α) : lt a a = false := by
  rw [← OE.lt (e := e)]; exact PyProof.Rows.lex_irrefl _
theorem lt_tr (e : α → PV) {n : Nat} [DE e n] {lt : α → α → Bool} [OE e lt] {a b c : α} (h1 : lt a b = true) (h2 : lt b c = true) : lt a c = true := by
  rw [← OE.lt (e := e)] at *; exact PyProof.Rows.lex_trans _ _ _ h1 h2
theorem lt_neg (e : α → PV) {n : Nat} [DE e n] {lt : α → α → Bool} [OE e lt] {a b c : α} (h : lt a c = true) : lt a b = true ∨ lt b c = true := by
  rw [← OE.lt (e := e)] at h
  rw [← OE.lt (e := e), ← OE.lt (e := e)]; exact PyProof.Rows.lex_negTrans _ _ _ h
theorem lt_tot (e : α → PV) {n : Nat} [DE e n] {lt : α → α → Bool} [OE e lt] {a b : α} (h1 : lt a b = false) (h2 : lt b a = false) : a = b := by
  rw [← OE.lt (e := e)] at h1 h2
  have hk := PyProof.Rows.lex_total _ _ h1 h2
  refine Classical.byContradiction fun hn => ?_
  have q := (PySem.W.toks_eqv _ _ (OE.ak (e := e) a b)).2 (by rw [DE.eq (e := e)]; simpa using hn) [] [.inl 0]
  rw [← hk, List.append_nil, PyProof.Rows.lex_irrefl] at q
  have q2 := PySem.W.lex_pre (PySem.W.keyToks (dt (e a))) [] [.inl 0]
  rw [List.append_nil, q] at q2
  cases q2
/-- insertion -/
def insR (lt : α → α → Bool) (x : α) : List α → List α
  | [] => [x]
  | y :: l => if lt y x = true then y :: insR lt x l else x :: y :: l
def sortR (lt : α → α → Bool) : List α → List α
  | [] => []
  | x :: l => insR lt x (sortR lt l)
end
theorem insR_perm {α : Type} (lt : α → α → Bool) (x : α) : ∀ l, (insR lt x l).Perm (x :: l)
  | [] => .refl _
  | y :: l => by
    unfold insR
    split
    · exact ((insR_perm lt x l).cons y).trans (.swap x y l)
    · exact .refl _
theorem sortR_perm {α : Type} (lt : α → α → Bool) : ∀ l, (sortR lt l).Perm l
  | [] => .refl _
  | x :: l => (insR_perm lt x _).trans ((sortR_perm lt l).cons x)
section
variable {α : Type} [DecidableEq α] {n : Nat} {lt : α → α → Bool}
theorem insR_srt (e : α → PV) [DE e n] [OE e lt] (x : α) : ∀ l : List α, l.Pairwise (fun a b => (!lt b a) = true) → (insR lt x l).Pairwise (fun a b => (!lt b a) = true)
  | [], _ => by simp [insR]
  | y :: l, h => by
    obtain ⟨h1, h2⟩ := List.pairwise_cons.mp h
    unfold insR
    by_cases hy : lt y x = true
    · rw [if_pos hy]
      refine List.pairwise_cons.mpr ⟨fun z hz => ?_, insR_srt e x l h2⟩
      rcases List.mem_cons.mp ((insR_perm lt x l).mem_iff.mp hz) with rfl | hz
      · cases q : lt z y with
        | false => rfl
        | true =>
          have := lt_tr e q hy
          rw [lt_irr e] at this; cases this
      · exact h1 z hz
    · rw [if_neg hy]
      refine List.pairwise_cons.mpr ⟨fun z hz => ?_, h⟩
      rcases List.mem_cons.mp hz with rfl | hz
      · simpa using hy
      · cases q : lt z x with
        | false => rfl
        | true =>
          rcases lt_neg e (b := y) q with q1 | q1
          · have := h1 z hz; rw [q1] at this; cases this
          · exact absurd q1 hy
theorem sortR_srt (e : α → PV) [DE e n] [OE e lt] : ∀ l : List α, (sortR lt l).Pairwise (fun a b => (!lt b a) = true)
  | [] => .nil
  | x :: l => insR_srt e x _ (sortR_srt e l)
theorem sort_uniq (e : α → PV) [DE e n] [OE e lt] {l m : List α} (h1 : l.Pairwise (fun a b => (!lt b a) = true)) (h2 : m.Pairwise (fun a b => (!lt b a) = true)) (hp : l.Perm m) : l = m :=
  List.Perm.eq_of_pairwise (le := fun a b => (!lt b a) = true) (fun a b _ _ q1 q2 => (lt_tot e (by simpa using q1) (by simpa using q2)).symm) h1 h2 hp
theorem mergeSort_eq (e : α → PV) [DE e n] [OE e lt] (l : List α) : l.mergeSort (fun a b => !lt b a) = sortR lt l := by
  refine sort_uniq e ?_ (sortR_srt e l) ((List.mergeSort_perm l _).trans (sortR_perm lt l).symm)
  refine List.pairwise_mergeSort (le := fun a b => !lt b a) (fun a b c h1 h2 => ?_) (fun a b => ?_) l
  · cases q : lt c a with
    | false => rfl
    | true =>
      rcases lt_neg e (b := b) q with q1 | q1
      · rw [q1] at h2; cases h2
      · rw [q1] at h1; cases h1
  · cases q : lt b a with
    | false => rfl
    | true =>
      cases q1 : lt a b with
      | false => rfl
      | true =>
        have := lt_tr e q q1
        rw [lt_irr e] at this; cases this
end
end MX

end

section
/-! max, sorted, lists of keys over data of Lean. -/
namespace MX
open PySem PySem.Spec PyProof.Rows L2
/-- data of which rows are never empty -/
class SE {α : Type} (e : α → PV) : Prop where
  kd : (∀ a, ∃ x r, dt (e a) = .tuple (x :: r)) ∨ (∀ a, (∀ xs, dt (e a) ≠ .tuple xs) ∧ dt (e a) ≠ .none)
instance : SE eI := ⟨.inr fun a => ⟨fun xs h => by (simp only [eI, dt] at h; cases h), fun h => by (simp only [eI, dt] at h; cases h)⟩⟩
instance : SE eS := ⟨.inr fun a => ⟨fun xs h => by (simp only [eS, dt] at h; cases h), fun h => by (simp only [eS, dt] at h; cases h)⟩⟩
instance {α β : Type} {e1 : α → PV} {e2 : β → PV} : SE (eT2 e1 e2) := ⟨.inl fun p => ⟨_, _, by simp only [eT2, dt, dts]; rfl⟩⟩
instance {α β γ : Type} {e1 : α → PV} {e2 : β → PV} {e3 : γ → PV} : SE (eT3 e1 e2 e3) := ⟨.inl fun p => ⟨_, _, by simp only [eT3, dt, dts]; rfl⟩⟩
class NE {α : Type} (e : α → PV) : Prop where
  nn : ∀ a, dt (e a) ≠ .none
instance : NE eI := ⟨fun _ h => by simp [eI, dt] at h⟩
instance : NE eS := ⟨fun _ h => by simp [eS, dt] at h⟩
instance : NE eB := ⟨fun _ h => by simp [eB, dt] at h⟩
instance {α β : Type} {e1 : α → PV} {e2 : β → PV} : NE (eT2 e1 e2) := ⟨fun _ h => by simp [eT2, dt] at h⟩
instance {α β γ : Type} {e1 : α → PV} {e2 : β → PV} {e3 : γ → PV} : NE (eT3 e1 e2 e3) := ⟨fun _ h => by simp [eT3, dt] at h⟩
instance {α : Type} {e : α → PV} : NE (eV e) := ⟨fun _ h => by simp [eV, dt] at h⟩
instance {α : Type} {e : α → PV} : NE (eL e) := ⟨fun _ h => by simp [eL, dt] at h⟩
section
variable {α : Type} [DecidableEq α] {e : α → PV} {n : Nat} [DE e n] {lt : α → α → Bool} [OE e lt]
theorem srtOk_of {e : α → PV} {n : Nat} [DE e n] {lt : α → α → Bool} [OE e lt] [SE e] (h : n ≤ 60) (l : List α) : srtOk (l.map e) = true := by
  unfold srtOk
  simp only [Bool.and_eq_true, decide_eq_true_eq, toDs_of (e := e) l, Option.isSome_some, true_and]
  refine ⟨⟨?_, ?_⟩, Nat.le_trans (dep_of (e := e) l) h⟩
  · simp only [List.all_map, List.all_eq_true, Function.comp]
    exact fun a _ b _ => OE.ak (e := e) a b
  · simp only [Bool.or_eq_true, List.all_map, List.all_eq_true, Function.comp]
    rcases SE.kd (e := e) with q | q
    · left; intro a _
      obtain ⟨x, r, w⟩ := q a
      rw [w]
    · right; intro a _
      obtain ⟨q1, q2⟩ := q a
      cases w : dt (e a) with
      | tuple xs => exact absurd w (q1 xs)
      | none => exact absurd w q2
      | _ => rfl
def sortF {α : Type} (lt : α → α → Bool) (l : List α) : RR (List α) := if l.length ≤ sizeLine then .ok (sortR lt l) else .stuck
theorem vSorted_of {e : α → PV} {n : Nat} [DE e n] {lt : α → α → Bool} [OE e lt] [SE e] (h : n ≤ 60) {x : PV} {l : List α} {L : Sto} (h1 : listOf L x = some (l.map e)) (hz : l.length ≤ sizeLine) : vSorted [x] L = some (eL e (sortR lt l), L) := by
  unfold vSorted
  simp only [h1]
  rw [if_pos ⟨srtOk_of h l, by simpa using hz⟩, ← mergeSort_eq e l]
  rw [← List.map_mergeSort (r := fun a b => !lt b a) (s := dle) (f := e)]
  · rfl
  · intro a _ b _
    unfold dle
    rw [OE.lt (e := e)]
theorem o_sortL [SE e] (h : n ≤ 60 := by decide) : ON vSorted (fun l => [eL e l]) (eL e) (sortF lt) := fun l L => by
  unfold sortF
  by_cases hz : l.length ≤ sizeLine
  · simp only [hz, if_true]
    exact vSorted_of h rfl hz
  · simp only [hz, if_false]
theorem ev_refSort [SE e] {i k : Nat} {xs : List α} {sp : Sl} {L : Sto} (hs : sp[i]? = some (some (.ref k))) (hL : L[k]? = some (.lst (xs.map e))) (h : n ≤ 60 := by decide) : EV (sxN vSorted (saCons (sxVar i) saNil)) sp L (sortF lt xs) (eL e) := by
  unfold sortF
  by_cases hz : xs.length ≤ sizeLine
  · simp only [hz, if_true]
    show sxN _ _ _ _ = _
    have h1 : listOf L (.ref k) = some (xs.map e) := by simp [listOf, hL]
    have := vSorted_of (lt := lt) h h1 hz
    unfold sxN saCons sxVar
    rw [hs]
    show Out.of (vSorted [.ref k] L) = _
    rw [this]
  · simp only [hz, if_false]; trivial
def maxR (lt : α → α → Bool) : List α → RR α
  | [] => .stuck
  | x :: l => .ok (l.foldl (fun a y => if lt a y = true then y else a) x)
theorem fold_dt (e : α → PV) {n : Nat} [DE e n] {lt : α → α → Bool} [OE e lt] : ∀ (l : List α) (x : α), (l.map fun a => dt (e a)).foldl (fun a y => if PySem.W.dataLt a y then y else a) (dt (e x)) = dt (e (l.foldl (fun a y => if lt a y = true then y else a) x))
  | [], x => rfl
  | y :: l, x => by
    rw [List.map_cons, List.foldl_cons, List.foldl_cons, OE.lt (e := e)]
    by_cases h : lt x y = true
    · rw [if_pos h, if_pos h]; exact fold_dt e l y
    · rw [if_neg h, if_neg h]; exact fold_dt e l x
theorem o_maxL [NE e] (h : n ≤ 60 := by decide) : ON vMaxL (fun l => [eL e l]) e (maxR lt) := fun l L => by
  cases l with
  | nil => trivial
  | cons x l =>
    show vMaxL _ _ = _
    have h1 : listOf L (eL e (x :: l)) = some ((x :: l).map e) := rfl
    unfold vMaxL
    simp only [h1, toDs_of (e := e) (x :: l)]
    have hd : dts ((x :: l).map e) = (x :: l).map fun a => dt (e a) := by rw [dts_map, List.map_map]; rfl
    have hA : alikeB (dts ((x :: l).map e)) = true := by
      rw [hd]
      unfold alikeB
      simp only [Bool.and_eq_true, List.all_map, List.all_eq_true, Function.comp]
      refine ⟨fun a _ b _ => OE.ak (e := e) a b, fun a _ => ?_⟩
      have := NE.nn (e := e) a
      cases w : dt (e a) with
      | none => exact absurd w this
      | _ => rfl
    have hl : (dts ((x :: l).map e)).length = l.length + 1 := by rw [hd]; simp
    rw [if_pos ⟨by omega, hA, Nat.le_trans (dep_of (e := e) _) h⟩, hl, hd]
    obtain ⟨b1, b2⟩ := PySem.W.argBest_fold (fun a b => PySem.W.dataLt b a) PyData.none (dt (e x)) (l.map fun a => dt (e a)) (l.map fun a => dt (e a)).length (Nat.le_refl _)
    rw [List.take_length, fold_dt e] at b2
    rw [List.length_map] at b1 b2
    have ei : (fun i j => PySem.W.dataLt ((dt (e x) :: l.map fun a => dt (e a)).getD j PyData.none) ((dt (e x) :: l.map fun a => dt (e a)).getD i PyData.none)) = gtAt ((x :: l).map fun a => dt (e a)) := rfl
    rw [ei] at b1 b2
    show Option.map _ (((x :: l).map e)[argBest (gtAt ((x :: l).map fun a => dt (e a))) l.length]?) = _
    have hb : argBest (gtAt ((x :: l).map fun a => dt (e a))) l.length < (x :: l).length := by simp only [List.length_cons]; omega
    rw [List.getElem?_map, List.getElem?_eq_getElem hb]
    have e1 : dt (e ((x :: l)[argBest (gtAt ((x :: l).map fun a => dt (e a))) l.length])) = dt (e (l.foldl (fun a y => if lt a y = true then y else a) x)) := by
      rw [← b2]
      show _ = ((x :: l).map fun a => dt (e a)).getD _ _
      rw [List.getD_eq_getElem?_getD, List.getElem?_map, List.getElem?_eq_getElem hb]; rfl
    have e2 : ((x :: l)[argBest (gtAt ((x :: l).map fun a => dt (e a))) l.length]) = l.foldl (fun a y => if lt a y = true then y else a) x := by
      have q := DE.eq (e := e) ((x :: l)[argBest (gtAt ((x :: l).map fun a => dt (e a))) l.length]) (l.foldl (fun a y => if lt a y = true then y else a) x)
      rw [e1, DE.eq (e := e)] at q
      simpa using q
    rw [e2]; rfl
end
/-! ### keys -/
class AK {α : Type} (e : α → PV) : Prop where
  sm : ∀ a, (atomK (e a)).isSome = true
  inj : ∀ a b, atomK (e a) = atomK (e b) → a = b
class KY {α : Type} (e : α → PV) : Prop where
  sm : ∀ a, (ukey (e a)).isSome = true
  inj : ∀ a b, ukey (e a) = ukey (e b) → a = b
instance : AK eI := ⟨fun _ => rfl, fun a b h => by simpa [eI, atomK] using h⟩
instance : AK eS := ⟨fun _ => rfl, fun a b h => Subtype.ext (by simpa [eS, atomK] using h)⟩
instance : AK eB := ⟨fun _ => rfl, fun a b h => by cases a <;> cases b <;> first | rfl | (exact absurd h (by decide))⟩
theorem atoms_some {x : PV} {xs : List PV} {k : Key} (h : atomK x = some k) : atomsK (x :: xs) = (atomsK xs).map (k :: ·) := by
  rw [atomsK, h]
section
variable {α β γ : Type} {e : α → PV} {e1 : α → PV} {e2 : β → PV} {e3 : γ → PV} [AK e] [AK e1] [AK e2] [AK e3]
theorem AK.out (e : α → PV) [AK e] (a : α) : ∃ k, atomK (e a) = some k := Option.isSome_iff_exists.mp (AK.sm (e := e) a)
instance : KY (eT2 e1 e2) := ⟨fun p => by
  obtain ⟨k1, h1⟩ := AK.out e1 p.1
  obtain ⟨k2, h2⟩ := AK.out e2 p.2
  simp [eT2, ukey, atomsK, h1, h2], fun p q h => by
  obtain ⟨k1, h1⟩ := AK.out e1 p.1
  obtain ⟨k2, h2⟩ := AK.out e2 p.2
  obtain ⟨m1, j1⟩ := AK.out e1 q.1
  obtain ⟨m2, j2⟩ := AK.out e2 q.2
  simp only [eT2, ukey, atomsK, h1, h2, j1, j2, Option.map_some, Option.some.injEq, List.cons.injEq, and_true] at h
  exact Prod.ext (AK.inj _ _ (by rw [h1, j1, h.1])) (AK.inj _ _ (by rw [h2, j2, h.2]))⟩
instance : KY (eT3 e1 e2 e3) := ⟨fun p => by
  obtain ⟨k1, h1⟩ := AK.out e1 p.1
  obtain ⟨k2, h2⟩ := AK.out e2 p.2.1
  obtain ⟨k3, h3⟩ := AK.out e3 p.2.2
  simp [eT3, ukey, atomsK, h1, h2, h3], fun p q h => by
  obtain ⟨k1, h1⟩ := AK.out e1 p.1
  obtain ⟨k2, h2⟩ := AK.out e2 p.2.1
  obtain ⟨k3, h3⟩ := AK.out e3 p.2.2
  obtain ⟨m1, j1⟩ := AK.out e1 q.1
  obtain ⟨m2, j2⟩ := AK.out e2 q.2.1
  obtain ⟨m3, j3⟩ := AK.out e3 q.2.2
  simp only [eT3, ukey, atomsK, h1, h2, h3, j1, j2, j3, Option.map_some, Option.some.injEq, List.cons.injEq, and_true] at h
  exact Prod.ext (AK.inj _ _ (by rw [h1, j1, h.1])) (Prod.ext (AK.inj _ _ (by rw [h2, j2, h.2.1])) (AK.inj _ _ (by rw [h3, j3, h.2.2])))⟩
theorem atoms_list (e : α → PV) [AK e] : ∀ l : List α, (atomsK (l.map e)).isSome = true
  | [] => rfl
  | a :: l => by
    obtain ⟨k, h⟩ := AK.out e a
    rw [List.map_cons, atoms_some h, Option.isSome_map]
    exact atoms_list e l
theorem atoms_inj (e : α → PV) [AK e] : ∀ l m : List α, atomsK (l.map e) = atomsK (m.map e) → l = m
  | [], [], _ => rfl
  | [], b :: m, h => by
    obtain ⟨k, j⟩ := AK.out e b
    obtain ⟨r, hr⟩ := Option.isSome_iff_exists.mp (atoms_list e m)
    rw [List.map_cons, atoms_some j, hr] at h
    cases h
  | a :: l, [], h => by
    obtain ⟨k, j⟩ := AK.out e a
    obtain ⟨r, hr⟩ := Option.isSome_iff_exists.mp (atoms_list e l)
    rw [List.map_cons, atoms_some j, hr] at h
    cases h
  | a :: l, b :: m, h => by
    obtain ⟨k, j⟩ := AK.out e a
    obtain ⟨k', j'⟩ := AK.out e b
    obtain ⟨r, hr⟩ := Option.isSome_iff_exists.mp (atoms_list e l)
    obtain ⟨r', hr'⟩ := Option.isSome_iff_exists.mp (atoms_list e m)
    rw [List.map_cons, List.map_cons, atoms_some j, atoms_some j', hr, hr'] at h
    simp only [Option.map_some, Option.some.injEq, List.cons.injEq] at h
    rw [AK.inj a b (by rw [j, j', h.1]), atoms_inj e l m (by rw [hr, hr', h.2])]
instance : KY (eV e) := ⟨atoms_list e, atoms_inj e⟩
end
/-! ### {k: v for x in xs}, its keys -/
def addK {α : Type} [DecidableEq α] (acc : List α) (y : α) : List α := if y ∈ acc then acc else acc ++ [y]
def duR {α γ : Type} [DecidableEq γ] (p : α → RR Bool) (f : α → RR γ) : List α → List γ → RR (List γ)
  | [], acc => .ok acc
  | x :: xs, acc => match p x with
    | .ok true => match f x with
      | .ok y => if acc.length < sizeLine then duR p f xs (addK acc y) else .stuck
      | _ => .stuck
    | .ok false => duR p f xs acc
    | _ => .stuck
section
variable {α γ : Type} [DecidableEq γ] {ea : α → PV} {ec : γ → PV} {L : Sto} {sp : Sl}
theorem any_key [KY ec] (vv : PV) (y : γ) : ∀ acc : List γ, (acc.map fun k => (ec k, vv)).any (sameK (ec y)) = decide (y ∈ acc)
  | [] => by simp
  | k :: acc => by
    rw [List.map_cons, List.any_cons, any_key vv y acc]
    by_cases h : k = y
    · subst h; simp [sameK]
    · have : ¬ ukey (ec k) = ukey (ec y) := fun z => h (KY.inj _ _ z)
      have h' : ¬ y = k := fun z => h z.symm
      simp [sameK, this, h']
theorem putU_add [KY ec] (vv : PV) (acc : List γ) (y : γ) : putU (acc.map fun k => (ec k, vv)) (ec y) vv = (addK acc y).map fun k => (ec k, vv) := by
  unfold putU addK
  rw [any_key]
  by_cases h : y ∈ acc
  · rw [if_pos (by simpa using h), if_pos h]
    rw [List.map_map]
    refine List.map_congr_left fun k _ => ?_
    simp only [Function.comp]
    split <;> rfl
  · rw [if_neg (by simpa using h), if_neg h]
    simp
theorem duL_R [KY ec] {vv : PV} {t : Sg} {c : St'} {tk tv : Sx} {p : α → RR Bool} {f : α → RR γ} {E : α → Sl} (ht : ∀ x, t (ea x) sp L = some (E x)) (hc : ∀ x, TV c (E x) L (p x)) (hk : ∀ x, EV tk (E x) L (f x) ec) (hv : ∀ x, tv (E x) L = .ok vv L) :
    ∀ (l : List α) (acc r : List γ), duR p f l acc = .ok r → duL sp t c tk tv (l.map ea) (acc.map fun k => (ec k, vv)) L = .ok (r.map fun k => (ec k, vv)) L
  | [], acc, r, h => by cases h; rfl
  | x :: l, acc, r, h => by
    simp only [List.map_cons, duL, ht x]
    have h1 := hc x
    have h2 := hk x
    unfold duR at h
    split at h
    · rename_i hp
      rw [hp] at h1
      rw [(show c (E x) L = _ from h1)]
      split at h
      · rename_i y hf
        rw [hf] at h2
        split at h
        · rename_i hz
          simp only [Out.pure, if_true]
          rw [(show tk (E x) L = _ from h2)]
          simp only
          rw [hv x]
          simp only
          rw [if_pos ⟨KY.sm (e := ec) y, by simpa using hz⟩, putU_add]
          exact duL_R ht hc hk hv l _ r h
        · cases h
      · cases h
    · rename_i hp
      rw [hp] at h1
      rw [(show c (E x) L = _ from h1)]
      simp only [Out.pure, Bool.false_eq_true, if_false]
      exact duL_R ht hc hk hv l acc r h
    · cases h
theorem duR_noexc (p : α → RR Bool) (f : α → RR γ) : ∀ (l : List α) (acc : List γ) (x : EX), duR p f l acc ≠ .exc x
  | [], acc, x, h => by cases h
  | a :: l, acc, x, h => by
    unfold duR at h
    split at h
    · split at h
      · split at h
        · exact duR_noexc p f l _ x h
        · cases h
      · cases h
    · exact duR_noexc p f l _ x h
    · cases h
theorem ev_dlist [KY ec] [RF ec] {vv : PV} {ti : Si} {vs : List Nat} {t : Sg} {c : St'} {tk tv : Sx} {p : α → RR Bool} {f : α → RR γ} {E : α → Sl} {o : RR (List α)} (hi : IV ti sp L o ea) (ht : ∀ x, t (ea x) (wipeP sp vs) L = some (E x)) (hc : ∀ x, TV c (E x) L (p x)) (hk : ∀ x, EV tk (E x) L (f x) ec) (hv : ∀ x, tv (E x) L = .ok vv L) :
    EV (sxTrim (sxN vListU (saCons (sxDu ti vs t c tk tv) saNil))) sp L (o.bnd fun l => (duR p f l []).bnd fitR) (eL ec) := by
  cases o with
  | stuck => trivial
  | exc x =>
    show sxTrim _ _ _ = _
    have : sxN vListU (saCons (sxDu ti vs t c tk tv) saNil) sp L = .exc x L := by
      unfold sxN saCons sxDu
      rw [(show ti sp L = _ from hi)]
    unfold sxTrim
    rw [this]
  | ok l =>
    have e0 : ti sp L = .ok (.items (l.map ea)) L := hi
    show EV _ _ _ ((duR p f l []).bnd fitR) _
    cases hr : duR p f l [] with
    | stuck => trivial
    | exc x => exact absurd hr (duR_noexc p f l [] x)
    | ok r =>
      show EV _ _ _ (fitR r) _
      unfold fitR
      try dsimp only
      by_cases hz : r.length ≤ sizeLine
      · rw [if_pos hz]
        have q : sxN vListU (saCons (sxDu ti vs t c tk tv) saNil) sp L = .ok (.lst (r.map ec)) (L ++ [.dcu (r.map fun k => (ec k, vv))]) := by
          have q1 : sxDu ti vs t c tk tv sp L = .ok (.ref L.length) (L ++ [.dcu (r.map fun k => (ec k, vv))]) := by
            unfold sxDu
            rw [e0]
            show (duL (wipeP sp vs) t c tk tv (l.map ea) [] L).pure _ = _
            have := duL_R ht hc hk hv l [] r hr
            rw [List.map_nil] at this
            rw [this]
          unfold sxN saCons
          rw [q1]
          show Out.of (vListU [.ref L.length] (L ++ [.dcu (r.map fun k => (ec k, vv))])) = _
          have q2 : (L ++ [SO.dcu (r.map fun k => (ec k, vv))])[L.length]? = some (.dcu (r.map fun k => (ec k, vv))) := by simp
          unfold vListU
          simp only [q2]
          rw [if_pos (by simpa using hz)]
          simp only [List.map_map]
          rfl
        show sxTrim _ _ _ = _
        unfold sxTrim
        rw [q]
        simp only
        rw [if_pos]
        · rfl
        · refine ⟨?_, by simp⟩
          show belows L.length (r.map ec) = true
          exact belows_mono _ (belows_map r)
      · rw [if_neg hz]; trivial
end
/-! ### what is known not to be None -/
def unO {α : Type} : Option α → RR α
  | some a => .ok a
  | none => .stuck
@[simp] theorem unO_some {α : Type} (a : α) : unO (some a) = .ok a := rfl
theorem ev_unt {α : Type} {e : α → PV} {a : Option α} {te : Sx} {sp : Sl} {L : Sto} (h : EV te sp L (.ok a) (eO e)) : EV te sp L (unO a) e := by
  cases a with
  | none => trivial
  | some x => exact h
theorem ev_un {α : Type} {e : α → PV} {o : RR (Option α)} {te : Sx} {sp : Sl} {L : Sto} (h : EV te sp L o (eO e)) : EV te sp L (o.bnd unO) e := by
  cases o with
  | stuck => trivial
  | exc x => exact h
  | ok a => exact ev_unt h
/-! ### repr -/
def eR : Str → PV := .str
def reprP : PV → RR Str
  | .ref _ => .stuck
  | x => match vRepr [x] [] with
    | some (.str z, _) => .ok z
    | _ => .stuck
def reprR {α : Type} (e : α → PV) (a : α) : RR Str := reprP (e a)
theorem on_of {α γ : Type} {o : VN} {er : α → List PV} {ec : γ → PV} {f : α → RR γ} (h : ∀ a L c, f a = .ok c → o (er a) L = some (ec c, L)) (h2 : ∀ a x, f a ≠ .exc x) : ON o er ec f := fun a L => by
  cases hf : f a with
  | ok c => exact h a L c hf
  | exc x => exact absurd hf (h2 a x)
  | stuck => trivial
theorem reprP_ok {x : PV} {z : Str} (h : reprP x = .ok z) (L : Sto) : vRepr [x] L = some (.str z, L) := by
  have hx : ∀ n, x ≠ .ref n := fun n e => by rw [e] at h; cases h
  have hd : dOf L x = dOf [] x := by
    cases x <;> first | rfl | exact absurd rfl (hx _)
  have h' : (match vRepr [x] [] with
    | some (.str z, _) => RR.ok z
    | _ => .stuck) = .ok z := by
    cases x with
    | ref n => exact absurd rfl (hx n)
    | _ => exact h
  unfold vRepr at h' ⊢
  dsimp only at h' ⊢
  rw [hd]
  cases e : dOf [] x with
  | none => rw [e] at h'; cases h'
  | some d =>
    rw [e] at h'
    dsimp only at h' ⊢
    by_cases hc : d.showable = true ∧ d.hasDict = false ∧ d.depth ≤ 64 ∧ d.shown.length ≤ sizeLine
    · rw [if_pos hc] at h' ⊢
      injection h' with h'
      rw [← h']
    · rw [if_neg hc] at h'; cases h'
theorem reprP_noexc (x : PV) (z : EX) : reprP x ≠ .exc z := by
  unfold reprP
  split
  · intro h; cases h
  · split <;> (intro h; cases h)
theorem o_repr {α : Type} {e : α → PV} : ON vRepr (fun a => [e a]) eR (reprR e) := on_of (fun a L c h => reprP_ok h L) fun a x => reprP_noexc _ x
theorem o_eqR : O2 vEqS eR eR eB fun a b => .ok (eqB a b) := fun a b L => rfl
theorem o_neR : O2 vNeS eR eR eB fun a b => .ok (!eqB a b) := fun a b L => rfl
theorem ev_any {α : Type} {e : α → PV} {o : RR α} {te : Sx} {sp : Sl} {L : Sto} (h : EV te sp L o e) : EV te sp L (o.bnd fun a => .ok (e a)) eP := by
  cases o with
  | stuck => trivial
  | exc x => exact h
  | ok a => exact h
theorem ev_anyt {α : Type} {e : α → PV} {a : α} {te : Sx} {sp : Sl} {L : Sto} (h : EV te sp L (.ok a) e) : EV te sp L (.ok (e a)) eP := h
/-! ### isinstance, of what is known -/
theorem o_inst {α : Type} {e : α → PV} {T : String} {b : Bool} (h : ∀ a L, vIsInst T (e a) L = some (.bl b, L)) : O1 (vIsInst T) e eB fun _ => .ok b := fun a L => h a L
section
variable {T : String} {b : Bool} {L : Sto}
theorem ty_tup (h : L2.kitB "tuple" T = some b) (xs : List PV) : vIsInst T (.tup xs) L = some (.bl b, L) := by simp [vIsInst, tyName, h]
theorem ty_lst (h : L2.kitB "list" T = some b) (xs : List PV) : vIsInst T (.lst xs) L = some (.bl b, L) := by simp [vIsInst, tyName, h]
theorem ty_int (h : L2.kitB "int" T = some b) (i : Int) : vIsInst T (.int i) L = some (.bl b, L) := by simp [vIsInst, tyName, h]
theorem ty_str (h : L2.kitB "str" T = some b) (x : Str) : vIsInst T (.str x) L = some (.bl b, L) := by simp [vIsInst, tyName, h]
theorem ty_bl (h : L2.kitB "bool" T = some b) (x : Bool) : vIsInst T (.bl x) L = some (.bl b, L) := by simp [vIsInst, tyName, h]
end
/-- what a def of truth values gives, read back -/
def bl? : RR PV → RR Bool
  | .ok (.bl b) => .ok b
  | _ => .stuck
theorem rv_bl (r : RR PV) : RV r (bl? r) eB := by
  unfold bl?
  split
  · rfl
  · trivial
/-! ### a list that a def made -/
def RR.nox {α : Type} : RR α → RR α
  | .ok a => .ok a
  | _ => .stuck
@[simp] theorem RR.nox_ok {α : Type} (a : α) : RR.nox (.ok a) = .ok a := rfl
def RVK {α : Type} (r : RR SO) (o : RR (List α)) (e : α → PV) : Prop := match o with
  | .ok l => r = .ok (.lst (l.map e))
  | _ => True
def JFK {α : Type} (e : α → PV) : List α → SOut → Prop := fun v out => ∃ L' j, out = .rt (.ref j) L' ∧ L'[j]? = some (.lst (v.map e))
section
variable {α τ : Type} {e : α → PV}
theorem rvk_fn [RF e] {n : Nat} {t : Ss} {as : List PV} {o : RR (List α)} (hb : belows 0 as = true) (h : GV t (startP n as) [] o (JFK e)) : RVK (makeF (bodyF n t) as) o.san e := by
  cases o with
  | stuck => trivial
  | exc x =>
    show RVK _ (if exOk x = true then .exc x else .stuck) e
    by_cases hx : exOk x = true
    · rw [if_pos hx]; trivial
    · rw [if_neg hx]; trivial
  | ok v =>
    obtain ⟨L', j, e1, e2⟩ := h
    show makeF (bodyF n t) as = .ok (.lst (v.map e))
    unfold makeF bodyF
    rw [if_pos hb, e1]
    simp only [e2]
    rw [if_pos (show belowO 0 (.lst (v.map e)) = true from belows_map v)]
theorem gv_retRef {r : Ss} {sp : Sl} {L : Sto} {i j : Nat} {xs : List α} (hs : sp[i]? = some (some (.ref j))) (hL : L[j]? = some (.lst (xs.map e))) : GV (ssSeq (ssRet (sxVar i)) r) sp L (.ok xs) (JFK e) := by
  refine ⟨L, j, ?_, hL⟩
  unfold ssSeq ssRet sxVar
  rw [hs]
theorem ae_nil {sp : Sl} {L : Sto} : saNil sp L = .ok [] L := rfl
theorem ae_cons {β : Type} {eb : β → PV} {b : β} {tb : Sx} {tr : Sa} {as : List PV} {sp : Sl} {L : Sto} (h : EV tb sp L (.ok b) eb) (hr : tr sp L = .ok as L) : saCons tb tr sp L = .ok (eb b :: as) L := by
  unfold saCons
  rw [(show tb sp L = _ from h)]
  show (tr sp L).bind _ = _
  rw [hr]
theorem gv_newCall {r : Ss} {sp : Sl} {L : Sto} {i : Nat} {pk : List PV → RR SO} {tr : Sa} {as : List PV} {o : RR (List α)} {f : List α → RR τ} {J : τ → SOut → Prop} (ha : tr sp L = .ok as L) (hx : RVK (pk as) o e)
    (hr : ∀ xs, GV r (sp.set i (some (.ref L.length))) (L ++ [.lst (xs.map e)]) (f xs) J) : GV (ssSeq (ssSet i (sxCall as.length (liftK pk) tr)) r) sp L (o.nox.bnd f) J := by
  cases o with
  | stuck => trivial
  | exc x => trivial
  | ok xs =>
    have q : sxCall as.length (liftK pk) tr sp L = .ok (.ref L.length) (L ++ [.lst (xs.map e)]) := by
      unfold sxCall
      rw [ha]
      show (if as.length = as.length then liftK pk as L else .stuck) = _
      rw [if_pos rfl]
      unfold liftK
      rw [(show pk as = _ from hx)]
    refine (hr xs).congr ?_
    unfold ssSeq ssSet
    rw [q]
end
end MX

end

section
/-! What the shared defs compute. -/
namespace MS
open PySem PySem.Spec PyProof.Rows L2 MX
noncomputable section
def t_is_thing_1 : Sx := (sx2 vIn (sxVar 1) (sxC (.str "abcdefghijklmnopqrstuvwxyz")))
def t_is_thing : Ss := (ssSeq (ssIf (stOr (stNot (stB (sx1 (vIsInst "str") (sxVar 0)))) (stNot (stB (sxChain vLe vLe (sxC (.int 1)) (sxN vLen (saCons (sxVar 0) saNil)) (sxC (.int 3)))))) (ssRet (sxC (.bl false))) ssNil) (ssRet (sxN vAll (saCons (sxLc fzL (siSeq (sxVar 0)) [1] (sgName 1) stYes t_is_thing_1) saNil))))
def p_is_thing : List PV → RR PV := pureF (bodyF 2 t_is_thing)
def m_is_thing : Fs := liftP p_is_thing
def t_is_step : Ss := (ssSeq (ssIf (stOr (stNot (stB (sx1 (vIsInst "tuple") (sxVar 0)))) (stOr (stB (sx2 vNe (sxN vLen (saCons (sxVar 0) saNil)) (sxC (.int 2)))) (stNot (stB (sx1 (vIsInst "str") (sx2 vItem (sxVar 0) (sxC (.int 0)))))))) (ssRet (sxC (.bl false))) ssNil) (ssRet (sxAnd (sx2 vIn (sx2 vItem (sxVar 0) (sxC (.int 0))) (sxN vTup (saCons (sxC (.str "look")) (saCons (sxC (.str "mark")) saNil)))) (sxCall 1 m_is_thing (saCons (sx2 vItem (sxVar 0) (sxC (.int 1))) saNil)))))
def p_is_step : List PV → RR PV := pureF (bodyF 1 t_is_step)
def m_is_step : Fs := liftP p_is_step
def t_can_follow : Ss := (ssSeq (ssIf (stOr (stNot (stB (sxCall 1 m_is_step (saCons (sxVar 1) saNil)))) (stB (sx2 vIn (sxVar 1) (sxVar 0)))) (ssRet (sxC (.bl false))) ssNil) (ssRet (sxOr (sx2 vEq (sx2 vItem (sxVar 1) (sxC (.int 0))) (sxC (.str "mark"))) (sx2 vNotIn (sxN vTup (saCons (sxC (.str "mark")) (saCons (sx2 vItem (sxVar 1) (sxC (.int 1))) saNil))) (sxVar 0)))))
def p_can_follow : List PV → RR PV := pureF (bodyF 2 t_can_follow)
def m_can_follow : Fs := liftP p_can_follow
def t_wrong_step_1 : Ss := (ssEnd [1, 2] (ssIf (stNot (stB (sxCall 2 m_can_follow (saCons (sxSl vSl (sxVar 0) soNo (soPart (sxVar 1))) (saCons (sxVar 2) saNil))))) (ssRet (sxVar 1)) ssNil))
def t_wrong_step : Ss := (ssSeq (ssWp [1, 2] (ssFor (siEnum (sxVar 0)) (sgTup 2 (sgCons (sgName 1) (sgCons (sgName 2) sgNil))) t_wrong_step_1)) (ssRet (sxC .non)))
def p_wrong_step : List PV → RR PV := pureF (bodyF 3 t_wrong_step)
def m_wrong_step : Fs := liftP p_wrong_step
def t_wrong_place_1 : Ss := (ssEnd [1, 2, 3] (ssSeq (ssIf (stOr (stNot (stB (sx1 (vIsInst "tuple") (sxVar 2)))) (stNot (stB (sxChain vLe vLe (sxC (.int 1)) (sxN vLen (saCons (sxVar 2) saNil)) (sxC (.int 5)))))) (ssRet (sxN vTup (saCons (sxVar 1) saNil))) ssNil) (ssSeq (ssSet 3 (sxCall 1 m_wrong_step (saCons (sxVar 2) saNil))) (ssIf (stB (sx2 vIsNotN (sxVar 3) (sxC .non))) (ssRet (sxN vTup (saCons (sxVar 1) (saCons (sxVar 3) saNil)))) ssNil))))
def t_wrong_place : Ss := (ssSeq (ssIf (stOr (stNot (stB (sx1 (vIsInst "tuple") (sxVar 0)))) (stNot (stB (sxChain vLe vLe (sxC (.int 1)) (sxN vLen (saCons (sxVar 0) saNil)) (sxC (.int 5)))))) (ssRet (sxN vTup saNil)) ssNil) (ssSeq (ssWp [1, 2, 3] (ssFor (siEnum (sxVar 0)) (sgTup 2 (sgCons (sgName 1) (sgCons (sgName 2) sgNil))) t_wrong_place_1)) (ssRet (sxC .non))))
def p_wrong_place : List PV → RR PV := pureF (bodyF 4 t_wrong_place)
def m_wrong_place : Fs := liftP p_wrong_place
def t_need_lot : Ss := (ssSeq (ssSet 1 (sxCall 1 m_wrong_place (saCons (sxVar 0) saNil))) (ssSeq (ssIf (stB (sx2 vIsNotN (sxVar 1) (sxC .non))) ssNo ssNil) (ssRet (sxVar 0))))
def p_need_lot : List PV → RR PV := pureF (bodyF 2 t_need_lot)
def m_need_lot : Fs := liftP p_need_lot
def t_l_begun_1 : St' := (stB (sx2 vGe (sxVar 5) (sx2 vPow (sxC (.int 10)) (sxC (.int 18)))))
def t_l_begun_2 : Sx := (sxVar 5)
def t_l_begun_3 : Ss := (ssEnd [5] (ssSet 4 (sx2 vMod (sxN vInt (saCons (sx2 vAdd (sx2 vMulT (sxVar 4) (sxC (.int 48271))) (sxVar 5)) saNil)) (sxC (.int 2147483647)))))
def t_l_begun : Ss := (ssSeq (ssSet 2 (sx2 vAdd (sxSl vSl (sxVar 0) (soPart (sxVar 1)) soNo) (sxSl vSl (sxVar 0) soNo (soPart (sxVar 1))))) (ssSeq (ssSet 3 (sxLc fzL (siSeq (sxVar 2)) [5] (sgName 5) t_l_begun_1 t_l_begun_2)) (ssSeq (ssSet 4 (sx2 vAdd (sxC (.int 89)) (sxVar 1))) (ssSeq (ssWp [5] (ssFor (siSeq (sxVar 2)) (sgName 5) t_l_begun_3)) (ssRet (sxDisp [((sxC (.str "left")), (sxIf (stB (sx2 vNe (sxVar 3) (sxN vLst saNil))) (sx2 vItem (sxVar 3) (sxC (.int 0))) (sxC (.int 0)))), ((sxC (.str "seed")), (sxVar 4)), ((sxC (.str "cells")), (sx2 vAdd (sxVar 2) (sxN vLst (saCons (sx2 vAdd (sx2 vMulT (sxC (.int 29)) (sxVar 1)) (sxC (.int 7))) saNil)))), ((sxC (.str "spot")), (sxC (.int 0)))]))))))
def p_l_begun : List PV → RR SO := makeF (bodyF 6 t_l_begun)
def m_l_begun : Fs := liftK p_l_begun
def t_l_draw : Ss := (ssSeq (ssIf (stB (sx2 vGt (sx2 vDItem (sxVar 0) (sxC (.str "left"))) (sxC (.int 0)))) (ssSeq (ssSet 2 (sx2 vMod (sxN vInt (saCons (sx2 vDItem (sxVar 0) (sxC (.str "left"))) saNil)) (sxVar 1))) (ssSeq (ssSub (sxVar 0) (sxC (.str "left")) (sx2 vFDiv (sx2 vDItem (sxVar 0) (sxC (.str "left"))) (sxVar 1))) (ssRet (sxVar 2)))) ssNil) (ssSeq (ssSet 3 (sx2 vDItem (sxVar 0) (sxC (.str "spot")))) (ssSeq (ssSub (sxVar 0) (sxC (.str "spot")) (sx2 vAdd (sxVar 3) (sxC (.int 1)))) (ssSeq (ssPar 4 5 (saCons (sx2 vDItem (sxVar 0) (sxC (.str "cells"))) (saCons (sx2 vAdd (sx2 vDItem (sxVar 0) (sxC (.str "seed"))) (sx2 vMulT (sx2 vMulT (sxC (.int 40503)) (sxVar 3)) (sxVar 3))) saNil))) (ssSeq (ssSet 6 (sx2 vItem (sxVar 4) (sx2 vMod (sxN vInt (saCons (sxVar 3) saNil)) (sxN vLen (saCons (sxVar 4) saNil))))) (ssSeq (ssSet 7 (sx2 vMod (sxN vInt (saCons (sx2 vAdd (sx2 vMulT (sxVar 6) (sx2 vAdd (sx2 vMulT (sxC (.int 2)) (sxVar 3)) (sxC (.int 3)))) (sxVar 5)) saNil)) (sxC (.int 2147483647)))) (ssSeq (ssSet 7 (sx2 vMod (sxN vInt (saCons (sx2 vAdd (sx2 vAdd (sx2 vMulT (sxVar 7) (sxVar 7)) (sx2 vMulT (sxC (.int 69621)) (sxVar 3))) (sx2 vDItem (sxVar 0) (sxC (.str "seed")))) saNil)) (sxC (.int 2147483629)))) (ssRet (sx2 vMod (sx2 vFDiv (sx2 vMod (sxN vInt (saCons (sx2 vAdd (sx2 vMulT (sxVar 7) (sxC (.int 48271))) (sxVar 3)) saNil)) (sxC (.int 2147483647))) (sxC (.int 11))) (sxVar 1))))))))))
def p_l_draw : SO → List PV → RR (PV × SO) := objF (bodyF 8 t_l_draw)
def m_l_draw : Fs := liftO p_l_draw
def t_l_of : Ss := (ssRet (sx2 vItem (sxVar 1) (sxCall 2 m_l_draw (saCons (sxVar 0) (saCons (sxN vLen (saCons (sxVar 1) saNil)) saNil)))))
def p_l_of : SO → List PV → RR (PV × SO) := objF (bodyF 2 t_l_of)
def m_l_of : Fs := liftO p_l_of
def t_l_deed_1 : Ss := (ssEnd [4, 5] (ssSeq (ssSet 5 (sxN vTup (saCons (sx2 vItem (sxN vLst (saCons (sxC (.str "look")) (saCons (sxC (.str "mark")) saNil))) (sxCall 2 m_l_draw (saCons (sxVar 0) (saCons (sxC (.int 2)) saNil)))) (saCons (sxCall 2 m_l_of (saCons (sxVar 0) (saCons (sxVar 1) saNil))) saNil)))) (ssIf (stAnd (stB (sx2 vNotIn (sxVar 5) (sxVar 3))) (stOr (stB (sx2 vEq (sx2 vItem (sxVar 5) (sxC (.int 0))) (sxC (.str "mark")))) (stB (sx2 vNotIn (sxN vTup (saCons (sxC (.str "mark")) (saCons (sx2 vItem (sxVar 5) (sxC (.int 1))) saNil))) (sxVar 3))))) (ssExpr (sxMt isL vAppend (sxVar 3) (saCons (sxVar 5) saNil))) ssNil)))
def t_l_deed : Ss := (ssSeq (ssSet 3 (sxN vNew saNil)) (ssSeq (ssWp [4, 5] (ssFor (siRange1 (sx2 vAdd (sxC (.int 1)) (sxCall 2 m_l_draw (saCons (sxVar 0) (saCons (sxVar 2) saNil))))) (sgName 4) t_l_deed_1)) (ssFrz 3 (ssRet (sxN vTuple (saCons (sxVar 3) saNil))))))
def p_l_deed : SO → List PV → RR (PV × SO) := objF (bodyF 6 t_l_deed)
def m_l_deed : Fs := liftO p_l_deed
def t_l_crew_1 : Sx := (sxCall 3 m_l_deed (saCons (sxVar 0) (saCons (sxVar 3) (saCons (sxVar 2) saNil))))
def t_l_crew : Ss := (ssSeq (ssSet 3 (sxCall 2 m_l_of (saCons (sxVar 0) (saCons (sxN vLst (saCons (sxN vLst (saCons (sxC (.str "a")) saNil)) (saCons (sxN vLst (saCons (sxC (.str "a")) (saCons (sxC (.str "b")) saNil))) (saCons (sxN vLst (saCons (sxC (.str "a")) (saCons (sxC (.str "b")) (saCons (sxC (.str "c")) saNil)))) (saCons (sxN vLst (saCons (sxC (.str "a")) (saCons (sxC (.str "ab")) (saCons (sxC (.str "b")) saNil)))) (saCons (sxN vLst (saCons (sxC (.str "xy")) (saCons (sxC (.str "xyz")) saNil))) (saCons (sxN vLst (saCons (sxC (.str "a")) (saCons (sxC (.str "b")) (saCons (sxC (.str "c")) (saCons (sxC (.str "d")) saNil))))) saNil))))))) saNil)))) (ssRet (sxN vTuple (saCons (sxLc fzL (siRange1 (sx2 vAdd (sxC (.int 1)) (sxCall 2 m_l_draw (saCons (sxVar 0) (saCons (sxVar 1) saNil))))) [4] (sgName 4) stYes t_l_crew_1) saNil))))
def p_l_crew : SO → List PV → RR (PV × SO) := objF (bodyF 5 t_l_crew)
def m_l_crew : Fs := liftO p_l_crew
def t_is_whole : Ss := (ssRet (sxAnd (sx1 (vIsInst "int") (sxVar 0)) (sxAnd (sxNot (sx1 (vIsInst "bool") (sxVar 0))) (sxChain vLe vLe (sxVar 1) (sxVar 0) (sxVar 2)))))
def p_is_whole : List PV → RR PV := pureF (bodyF 3 t_is_whole)
def m_is_whole : Fs := liftP p_is_whole
def t_are_levels_1 : Sx := (sxAnd (sx1 (vIsInst "str") (sxVar 2)) (sx2 vIn (sxVar 2) (sxC (.tup [.str "late", .str "early", .str "guarded"]))))
def t_are_levels : Ss := (ssSeq (ssIf (stOr (stNot (stB (sx1 (vIsInst "tuple") (sxVar 1)))) (stB (sx2 vNe (sxN vLen (saCons (sxVar 1) saNil)) (sxN vLen (saCons (sxVar 0) saNil))))) (ssRet (sxC (.bl false))) ssNil) (ssRet (sxN vAll (saCons (sxLc fzL (siSeq (sxVar 1)) [2] (sgName 2) stYes t_are_levels_1) saNil))))
def p_are_levels : List PV → RR PV := pureF (bodyF 3 t_are_levels)
def m_are_levels : Fs := liftP p_are_levels
def t_need_levels : Ss := (ssSeq (ssExpr (sxCall 1 m_need_lot (saCons (sxVar 0) saNil))) (ssSeq (ssIf (stNot (stB (sxCall 2 m_are_levels (saCons (sxVar 0) (saCons (sxVar 1) saNil))))) ssNo ssNil) (ssRet (sxVar 1))))
def p_need_levels : List PV → RR PV := pureF (bodyF 2 t_need_levels)
def m_need_levels : Fs := liftP p_need_levels
def t_wrong_spot_1 : Sx := (sx2 vAdd (sxN vLen (saCons (sxVar 5) saNil)) (sxC (.int 1)))
def t_wrong_spot_2 : Ss := (ssEnd [3, 4] (ssSeq (ssIf (stOr (stNot (stB (sxCall 3 m_is_whole (saCons (sxVar 4) (saCons (sxC (.int 0)) (saCons (sx2 vSub (sxN vLen (saCons (sxVar 0) saNil)) (sxC (.int 1))) saNil)))))) (stB (sx2 vEq (sx2 vItem (sxVar 2) (sxVar 4)) (sxC (.int 0))))) (ssRet (sxVar 3)) ssNil) (ssAugSub vSub (sxVar 2) (sxVar 4) (sxC (.int 1)))))
def t_wrong_spot : Ss := (ssSeq (ssSet 2 (sxLc nwL (siSeq (sxVar 0)) [5] (sgName 5) stYes t_wrong_spot_1)) (ssSeq (ssWp [3, 4] (ssFor (siEnum (sxVar 1)) (sgTup 2 (sgCons (sgName 3) (sgCons (sgName 4) sgNil))) t_wrong_spot_2)) (ssRet (sxC .non))))
def p_wrong_spot : List PV → RR PV := pureF (bodyF 6 t_wrong_spot)
def m_wrong_spot : Fs := liftP p_wrong_spot
def t_need_run_1 : Sx := (sx2 vAdd (sxN vLen (saCons (sxVar 3) saNil)) (sxC (.int 1)))
def t_need_run : Ss := (ssSeq (ssExpr (sxCall 1 m_need_lot (saCons (sxVar 0) saNil))) (ssSeq (ssIf (stOr (stNot (stB (sx1 (vIsInst "tuple") (sxVar 1)))) (stB (sx2 vNe (sxN vLen (saCons (sxVar 1) saNil)) (sxN vSum (saCons (sxLc fzL (siSeq (sxVar 0)) [3] (sgName 3) stYes t_need_run_1) saNil))))) ssNo ssNil) (ssSeq (ssSet 2 (sxCall 2 m_wrong_spot (saCons (sxVar 0) (saCons (sxVar 1) saNil)))) (ssSeq (ssIf (stB (sx2 vIsNotN (sxVar 2) (sxC .non))) ssNo ssNil) (ssRet (sxVar 1))))))
def p_need_run : List PV → RR PV := pureF (bodyF 4 t_need_run)
def m_need_run : Fs := liftP p_need_run
def t_l_tiers_1 : Sx := (sx2 vItem (sxN vLst (saCons (sxC (.str "late")) (saCons (sxC (.str "early")) (saCons (sxC (.str "guarded")) saNil)))) (sxCall 2 m_l_draw (saCons (sxVar 0) (saCons (sxC (.int 3)) saNil))))
def t_l_tiers : Ss := (ssRet (sxN vTuple (saCons (sxLc fzL (siSeq (sxVar 1)) [2] (sgName 2) stYes t_l_tiers_1) saNil)))
def p_l_tiers : SO → List PV → RR (PV × SO) := objF (bodyF 3 t_l_tiers)
def m_l_tiers : Fs := liftO p_l_tiers
def t_l_course_1 : Sx := (sx2 vAdd (sxN vLen (saCons (sxVar 6) saNil)) (sxC (.int 1)))
def t_l_course_2 : St' := (stB (sx2 vGt (sx2 vItem (sxVar 2) (sxVar 5)) (sxC (.int 0))))
def t_l_course_3 : Sx := (sxVar 5)
def t_l_course_4 : St' := (stB (sx2 vGt (sxN vSum (saCons (sxVar 2) saNil)) (sxC (.int 0))))
def t_l_course_5 : Ss := (ssEnd [4] (ssSeq (ssSet 4 (sxLc fzL (siRange1 (sxN vLen (saCons (sxVar 1) saNil))) [5] (sgName 5) t_l_course_2 t_l_course_3)) (ssSeq (ssSet 5 (sx2 vItem (sxVar 4) (sxCall 2 m_l_draw (saCons (sxVar 0) (saCons (sxN vLen (saCons (sxVar 4) saNil)) saNil))))) (ssSeq (ssIf (stAnd (stB (sx2 vNe (sxVar 3) (sxN vLst saNil))) (stAnd (stB (sx2 vGt (sx2 vItem (sxVar 2) (sx2 vItem (sxVar 3) (sx1 vNeg (sxC (.int 1))))) (sxC (.int 0)))) (stB (sx2 vEq (sxCall 2 m_l_draw (saCons (sxVar 0) (saCons (sxC (.int 2)) saNil))) (sxC (.int 0)))))) (ssSet 5 (sx2 vItem (sxVar 3) (sx1 vNeg (sxC (.int 1))))) ssNil) (ssSeq (ssSub (sxVar 2) (sxVar 5) (sx2 vSub (sx2 vItem (sxVar 2) (sxVar 5)) (sxC (.int 1)))) (ssExpr (sxMt isL vAppend (sxVar 3) (saCons (sxVar 5) saNil))))))))
def t_l_course : Ss := (ssSeq (ssAsg (sxN vTup (saCons (sxLc nwL (siSeq (sxVar 1)) [6] (sgName 6) stYes t_l_course_1) (saCons (sxN vNew saNil) saNil))) (sgTup 2 (sgCons (sgName 2) (sgCons (sgName 3) sgNil)))) (ssSeq (ssWp [4] (ssWhile 1000000 t_l_course_4 t_l_course_5)) (ssFrz 3 (ssRet (sxN vTuple (saCons (sxVar 3) saNil))))))
def p_l_course : SO → List PV → RR (PV × SO) := objF (bodyF 7 t_l_course)
def m_l_course : Fs := liftO p_l_course
def t_do_steps_touch : Ss := (ssRet (sxAnd (sx2 vEq (sx2 vItem (sxVar 0) (sxC (.int 1))) (sx2 vItem (sxVar 1) (sxC (.int 1)))) (sx2 vIn (sxC (.str "mark")) (sxN vTup (saCons (sx2 vItem (sxVar 0) (sxC (.int 0))) (saCons (sx2 vItem (sxVar 1) (sxC (.int 0))) saNil))))))
def p_do_steps_touch : List PV → RR PV := pureF (bodyF 2 t_do_steps_touch)
def m_do_steps_touch : Fs := liftP p_do_steps_touch
def t_touching_in_1 : Ss := (ssEnd [5, 6] (ssIf (stB (sxCall 2 m_do_steps_touch (saCons (sxVar 4) (saCons (sxVar 6) saNil)))) (ssExpr (sxMt isL vAppend (sxVar 2) (saCons (sxN vTup (saCons (sxVar 3) (saCons (sxVar 5) saNil))) saNil))) ssNil))
def t_touching_in_2 : Ss := (ssEnd [3, 4, 5, 6] (ssWp [5, 6] (ssFor (siEnum (sxVar 1)) (sgTup 2 (sgCons (sgName 5) (sgCons (sgName 6) sgNil))) t_touching_in_1)))
def t_touching_in : Ss := (ssSeq (ssSet 2 (sxN vNew saNil)) (ssSeq (ssWp [3, 4, 5, 6] (ssFor (siEnum (sxVar 0)) (sgTup 2 (sgCons (sgName 3) (sgCons (sgName 4) sgNil))) t_touching_in_2)) (ssFrz 2 (ssRet (sxVar 2)))))
def p_touching_in : List PV → RR PV := pureF (bodyF 7 t_touching_in)
def m_touching_in : Fs := liftP p_touching_in
def t_touching : Ss := (ssSeq (ssExpr (sxCall 1 m_need_lot (saCons (sxVar 0) saNil))) (ssSeq (ssIf (stNot (stB (sxCall 3 m_is_whole (saCons (sxVar 1) (saCons (sxC (.int 0)) (saCons (sx2 vSub (sxN vLen (saCons (sxVar 0) saNil)) (sxC (.int 1))) saNil)))))) ssNo ssNil) (ssSeq (ssIf (stOr (stNot (stB (sxCall 3 m_is_whole (saCons (sxVar 2) (saCons (sxC (.int 0)) (saCons (sx2 vSub (sxN vLen (saCons (sxVar 0) saNil)) (sxC (.int 1))) saNil)))))) (stB (sx2 vEq (sxVar 2) (sxVar 1)))) ssNo ssNil) (ssRet (sxN vTuple (saCons (sxCall 2 m_touching_in (saCons (sx2 vItem (sxVar 0) (sxVar 1)) (saCons (sx2 vItem (sxVar 0) (sxVar 2)) saNil))) saNil))))))
def p_touching : List PV → RR PV := pureF (bodyF 3 t_touching)
def m_touching : Fs := liftP p_touching
def t_how_many_1 : Ss := (ssEnd [4] (ssSeq (ssAug 2 vIpAdd (sxC (.int 1))) (ssSet 1 (sx2 vFDiv (sx2 vMulT (sxVar 1) (sxVar 2)) (sx2 vAdd (sxVar 4) (sxC (.int 1)))))))
def t_how_many_2 : Ss := (ssEnd [3, 4] (ssWp [4] (ssFor (siRange1 (sx2 vAdd (sxN vLen (saCons (sxVar 3) saNil)) (sxC (.int 1)))) (sgName 4) t_how_many_1)))
def t_how_many : Ss := (ssSeq (ssPar 1 2 (saCons (sxC (.int 1)) (saCons (sxC (.int 0)) saNil))) (ssSeq (ssWp [3, 4] (ssFor (siSeq (sxVar 0)) (sgName 3) t_how_many_2)) (ssRet (sxVar 1))))
def p_how_many : List PV → RR PV := pureF (bodyF 5 t_how_many)
def m_how_many : Fs := liftP p_how_many
def t_l_all_courses_1 : Sx := (sx2 vAdd (sxN vLen (saCons (sxVar 7) saNil)) (sxC (.int 1)))
def t_l_all_courses_2 : St' := (stB (sx2 vEq (sxVar 8) (sxVar 6)))
def t_l_all_courses_3 : Sx := (sxVar 8)
def t_l_all_courses_4 : Ss := (ssEnd [6] (ssIf (stB (sx2 vLt (sxN vLen (saCons (sxLc fzL (siSeq (sxVar 5)) [8] (sgName 8) t_l_all_courses_2 t_l_all_courses_3) saNil)) (sx2 vAdd (sxN vLen (saCons (sx2 vItem (sxVar 0) (sxVar 6)) saNil)) (sxC (.int 1))))) (ssExpr (sxMt isL vAppend (sxVar 4) (saCons (sx2 vAdd (sxVar 5) (sxN vTup (saCons (sxVar 6) saNil))) saNil))) ssNil))
def t_l_all_courses_5 : Ss := (ssEnd [5, 6] (ssWp [6] (ssFor (siRange1 (sxN vLen (saCons (sxVar 0) saNil))) (sgName 6) t_l_all_courses_4)))
def t_l_all_courses_6 : Ss := (ssLoc [3, 4, 5, 6] (ssSeq (ssSet 4 (sxN vNew saNil)) (ssSeq (ssWp [5, 6] (ssFor (siSeq (sxVar 2)) (sgName 5) t_l_all_courses_5)) (ssFrz 4 (ssSet 2 (sxVar 4))))))
def t_l_all_courses : Ss := (ssSeq (ssPar 1 2 (saCons (sxN vSum (saCons (sxLc fzL (siSeq (sxVar 0)) [7] (sgName 7) stYes t_l_all_courses_1) saNil)) (saCons (sxN vLst (saCons (sxN vTup saNil) saNil)) saNil))) (ssSeq (ssWp [3, 4, 5, 6] (ssFor (siRange1 (sxVar 1)) (sgName 3) t_l_all_courses_6)) (ssRet (sxVar 2))))
def p_l_all_courses : List PV → RR PV := pureF (bodyF 9 t_l_all_courses)
def m_l_all_courses : Fs := liftP p_l_all_courses
def t_times_of_1 : St' := (stB (sx2 vEq (sxVar 4) (sxVar 2)))
def t_times_of_2 : Sx := (sxVar 3)
def t_times_of_3 : Sx := (sxLc fzL (siEnum (sxVar 1)) [3, 4] (sgTup 2 (sgCons (sgName 3) (sgCons (sgName 4) sgNil))) t_times_of_1 t_times_of_2)
def t_times_of : Ss := (ssRet (sxLc fzL (siRange1 (sxN vLen (saCons (sxVar 0) saNil))) [2] (sgName 2) stYes t_times_of_3))
def p_times_of : List PV → RR PV := pureF (bodyF 5 t_times_of)
def m_times_of : Fs := liftP p_times_of
def t_need_all : Ss := (ssSeq (ssExpr (sxCall 2 m_need_levels (saCons (sxVar 0) (saCons (sxVar 1) saNil)))) (ssExpr (sxCall 2 m_need_run (saCons (sxVar 0) (saCons (sxVar 2) saNil)))))
def p_need_all : List PV → RR PV := pureF (bodyF 3 t_need_all)
def m_need_all : Fs := liftP p_need_all
def t_markers_1 : St' := (stAnd (stB (sx2 vNe (sxVar 3) (sxVar 1))) (stB (sx2 vIn (sxN vTup (saCons (sxC (.str "mark")) (saCons (sxVar 2) saNil))) (sxVar 4))))
def t_markers_2 : Sx := (sxVar 3)
def t_markers : Ss := (ssRet (sxLc fzL (siEnum (sxVar 0)) [3, 4] (sgTup 2 (sgCons (sgName 3) (sgCons (sgName 4) sgNil))) t_markers_1 t_markers_2))
def p_markers : List PV → RR PV := pureF (bodyF 5 t_markers)
def m_markers : Fs := liftP p_markers
def t_sight_of_1 : St' := (stB (sx2 vLt (sx2 vItem (sx2 vItem (sxVar 2) (sxVar 7)) (sx1 vNeg (sxC (.int 1)))) (sxVar 5)))
def t_sight_of_2 : Sx := (sxN vTup (saCons (sx2 vItem (sx2 vItem (sxVar 2) (sxVar 7)) (sx1 vNeg (sxC (.int 1)))) (saCons (sxVar 7) saNil)))
def t_sight_of : Ss := (ssSeq (ssSet 5 (sx2 vItem (sx2 vItem (sxVar 2) (sxVar 3)) (sxIf (stB (sx2 vEq (sx2 vItem (sxVar 1) (sxVar 3)) (sxC (.str "late")))) (sxVar 4) (sxC (.int 0))))) (ssSeq (ssSet 6 (sxLc fzL (siSeq (sxCall 3 m_markers (saCons (sxVar 0) (saCons (sxVar 3) (saCons (sx2 vItem (sx2 vItem (sx2 vItem (sxVar 0) (sxVar 3)) (sxVar 4)) (sxC (.int 1))) saNil))))) [7] (sgName 7) t_sight_of_1 t_sight_of_2)) (ssRet (sxIf (stB (sx2 vNe (sxVar 6) (sxN vLst saNil))) (sx2 vItem (sxN vMaxL (saCons (sxVar 6) saNil)) (sxC (.int 1))) (sxC .non)))))
def p_sight_of : List PV → RR PV := pureF (bodyF 8 t_sight_of)
def m_sight_of : Fs := liftP p_sight_of
def t_seen_in_1 : Ss := (ssEnd [6, 7, 8] (ssIf (stB (sx2 vEq (sxVar 7) (sxC (.str "look")))) (ssExpr (sxMt isL vAppend (sxVar 3) (saCons (sxN vTup (saCons (sxVar 4) (saCons (sxVar 6) (saCons (sxCall 5 m_sight_of (saCons (sxVar 0) (saCons (sxVar 1) (saCons (sxVar 2) (saCons (sxVar 4) (saCons (sxVar 6) saNil)))))) saNil)))) saNil))) ssNil))
def t_seen_in_2 : Ss := (ssEnd [4, 5, 6, 7, 8] (ssWp [6, 7, 8] (ssFor (siEnum (sxVar 5)) (sgTup 2 (sgCons (sgName 6) (sgCons (sgTup 2 (sgCons (sgName 7) (sgCons (sgName 8) sgNil))) sgNil))) t_seen_in_1)))
def t_seen_in : Ss := (ssSeq (ssSet 3 (sxN vNew saNil)) (ssSeq (ssWp [4, 5, 6, 7, 8] (ssFor (siEnum (sxVar 0)) (sgTup 2 (sgCons (sgName 4) (sgCons (sgName 5) sgNil))) t_seen_in_2)) (ssFrz 3 (ssRet (sxVar 3)))))
def p_seen_in : List PV → RR PV := pureF (bodyF 9 t_seen_in)
def m_seen_in : Fs := liftP p_seen_in
def t_seen : Ss := (ssSeq (ssExpr (sxCall 3 m_need_all (saCons (sxVar 0) (saCons (sxVar 1) (saCons (sxVar 2) saNil))))) (ssRet (sxN vTuple (saCons (sxCall 3 m_seen_in (saCons (sxVar 0) (saCons (sxVar 1) (saCons (sxCall 2 m_times_of (saCons (sxVar 0) (saCons (sxVar 2) saNil))) saNil)))) saNil))))
def p_seen : List PV → RR PV := pureF (bodyF 3 t_seen)
def m_seen : Fs := liftP p_seen
def t_l_clocks_1 : Sx := (sxN vNew saNil)
def t_l_clocks_2 : Ss := (ssEnd [3, 4] (ssExpr (sxMt isL vAppend (sx2 vItem (sxVar 2) (sxVar 4)) (saCons (sxVar 3) saNil))))
def t_l_clocks : Ss := (ssSeq (ssSet 2 (sxLc fzL (siSeq (sxVar 0)) [5] (sgName 5) stYes t_l_clocks_1)) (ssSeq (ssWp [3, 4] (ssFor (siEnum (sxVar 1)) (sgTup 2 (sgCons (sgName 3) (sgCons (sgName 4) sgNil))) t_l_clocks_2)) (ssRet (sxVar 2))))
def p_l_clocks : List PV → RR PV := pureF (bodyF 6 t_l_clocks)
def m_l_clocks : Fs := liftP p_l_clocks
def t_l_marks : Ss := (ssRet (sx2 vIn (sxN vTup (saCons (sxC (.str "mark")) (saCons (sxVar 1) saNil))) (sxVar 0)))
def p_l_marks : List PV → RR PV := pureF (bodyF 2 t_l_marks)
def m_l_marks : Fs := liftP p_l_marks
def t_l_sight_1 : Ss := (ssEnd [8] (ssIf (stAnd (stB (sx2 vNe (sxVar 8) (sxVar 3))) (stAnd (stB (sxCall 2 m_l_marks (saCons (sx2 vItem (sxVar 0) (sxVar 8)) (saCons (sxVar 6) saNil)))) (stB (sx2 vLt (sx2 vItem (sx2 vItem (sxVar 2) (sxVar 8)) (sx1 vNeg (sxC (.int 1)))) (sxVar 5))))) (ssIf (stOr (stB (sx2 vIsN (sxVar 7) (sxC .non))) (stB (sx2 vGt (sx2 vItem (sx2 vItem (sxVar 2) (sxVar 8)) (sx1 vNeg (sxC (.int 1)))) (sx2 vItem (sx2 vItem (sxVar 2) (sxVar 7)) (sx1 vNeg (sxC (.int 1))))))) (ssSet 7 (sxVar 8)) ssNil) ssNil))
def t_l_sight : Ss := (ssSeq (ssPar 5 6 (saCons (sx2 vItem (sx2 vItem (sxVar 2) (sxVar 3)) (sxC (.int 0))) (saCons (sx2 vItem (sx2 vItem (sx2 vItem (sxVar 0) (sxVar 3)) (sxVar 4)) (sxC (.int 1))) saNil))) (ssSeq (ssIf (stB (sx2 vEq (sx2 vItem (sxVar 1) (sxVar 3)) (sxC (.str "late")))) (ssSet 5 (sx2 vItem (sx2 vItem (sxVar 2) (sxVar 3)) (sxVar 4))) ssNil) (ssSeq (ssSet 7 (sxC .non)) (ssSeq (ssWp [8] (ssFor (siRange1 (sxN vLen (saCons (sxVar 0) saNil))) (sgName 8) t_l_sight_1)) (ssRet (sxVar 7))))))
def p_l_sight : List PV → RR PV := pureF (bodyF 9 t_l_sight)
def m_l_sight : Fs := liftP p_l_sight
def t_l_looks_1 : St' := (stB (sx2 vEq (sx2 vItem (sx2 vItem (sxVar 0) (sxVar 1)) (sxC (.int 0))) (sxC (.str "look"))))
def t_l_looks_2 : Sx := (sxVar 1)
def t_l_looks : Ss := (ssRet (sxLc fzL (siRange1 (sxN vLen (saCons (sxVar 0) saNil))) [1] (sgName 1) t_l_looks_1 t_l_looks_2))
def p_l_looks : List PV → RR PV := pureF (bodyF 2 t_l_looks)
def m_l_looks : Fs := liftP p_l_looks
def t_things_in_1 : St' := (stB (sx2 vEq (sxVar 2) (sxVar 1)))
def t_things_in_2 : Sx := (sxVar 3)
def t_things_in : Ss := (ssRet (sxLc fzL (siSeq (sxVar 0)) [2, 3] (sgTup 2 (sgCons (sgName 2) (sgCons (sgName 3) sgNil))) t_things_in_1 t_things_in_2))
def p_things_in : List PV → RR PV := pureF (bodyF 4 t_things_in)
def m_things_in : Fs := liftP p_things_in
def t_look_arrows_1 : Ss := (ssEnd [7] (ssIf (stAnd (stB (sx2 vIsNotN (sxVar 5) (sxC .non))) (stB (sx2 vLe (sx2 vItem (sx2 vItem (sxVar 1) (sxVar 7)) (sx1 vNeg (sxC (.int 1)))) (sx2 vItem (sx2 vItem (sxVar 1) (sxVar 5)) (sx1 vNeg (sxC (.int 1))))))) (ssExpr (sxMt isL vAppend (sxVar 6) (saCons (sxN vTup (saCons (sxVar 7) (saCons (sxVar 3) (saCons (sxC (.str "shown")) saNil)))) saNil))) (ssExpr (sxMt isL vAppend (sxVar 6) (saCons (sxN vTup (saCons (sxVar 3) (saCons (sxVar 7) (saCons (sxC (.str "missed")) saNil)))) saNil)))))
def t_look_arrows : Ss := (ssSeq (ssAsg (sxVar 2) (sgTup 3 (sgCons (sgName 3) (sgCons (sgName 4) (sgCons (sgName 5) sgNil))))) (ssSeq (ssSet 6 (sxN vNew saNil)) (ssSeq (ssWp [7] (ssFor (siSeq (sxCall 3 m_markers (saCons (sxVar 0) (saCons (sxVar 3) (saCons (sx2 vItem (sx2 vItem (sx2 vItem (sxVar 0) (sxVar 3)) (sxVar 4)) (sxC (.int 1))) saNil))))) (sgName 7) t_look_arrows_1)) (ssFrz 6 (ssRet (sxVar 6))))))
def p_look_arrows : List PV → RR PV := pureF (bodyF 8 t_look_arrows)
def m_look_arrows : Fs := liftP p_look_arrows
def t_over_arrows_1 : St' := (stB (sx2 vLt (sx2 vItem (sx2 vItem (sxVar 1) (sxVar 3)) (sx1 vNeg (sxC (.int 1)))) (sx2 vItem (sx2 vItem (sxVar 1) (sxVar 7)) (sx1 vNeg (sxC (.int 1))))))
def t_over_arrows_2 : Sx := (sxVar 7)
def t_over_arrows_3 : Sx := (sxN vTup (saCons (sxVar 3) (saCons (sxVar 7) (saCons (sxC (.str "over")) saNil))))
def t_over_arrows_4 : Ss := (ssEnd [5, 6] (ssSeq (ssSet 6 (sxLc fzL (siSeq (sxCall 3 m_markers (saCons (sxVar 0) (saCons (sxVar 3) (saCons (sxVar 5) saNil))))) [7] (sgName 7) t_over_arrows_1 t_over_arrows_2)) (ssExpr (sxMt isL vExtend (sxVar 2) (saCons (sxLc fzL (siSeq (sxVar 6)) [7] (sgName 7) stYes t_over_arrows_3) saNil)))))
def t_over_arrows_5 : Ss := (ssEnd [3, 4, 5, 6] (ssWp [5, 6] (ssFor (siSeq (sxCall 2 m_things_in (saCons (sxVar 4) (saCons (sxC (.str "mark")) saNil)))) (sgName 5) t_over_arrows_4)))
def t_over_arrows : Ss := (ssSeq (ssSet 2 (sxN vNew saNil)) (ssSeq (ssWp [3, 4, 5, 6] (ssFor (siEnum (sxVar 0)) (sgTup 2 (sgCons (sgName 3) (sgCons (sgName 4) sgNil))) t_over_arrows_5)) (ssFrz 2 (ssRet (sxVar 2)))))
def p_over_arrows : List PV → RR PV := pureF (bodyF 8 t_over_arrows)
def m_over_arrows : Fs := liftP p_over_arrows
def t_over_arrows_k_1 : St' := (stB (sx2 vLt (sx2 vItem (sx2 vItem (sxVar 1) (sxVar 3)) (sx1 vNeg (sxC (.int 1)))) (sx2 vItem (sx2 vItem (sxVar 1) (sxVar 7)) (sx1 vNeg (sxC (.int 1))))))
def t_over_arrows_k_2 : Sx := (sxVar 7)
def t_over_arrows_k_3 : Sx := (sxN vTup (saCons (sxVar 3) (saCons (sxVar 7) (saCons (sxC (.str "over")) saNil))))
def t_over_arrows_k_4 : Ss := (ssEnd [5, 6] (ssSeq (ssSet 6 (sxLc fzL (siSeq (sxCall 3 m_markers (saCons (sxVar 0) (saCons (sxVar 3) (saCons (sxVar 5) saNil))))) [7] (sgName 7) t_over_arrows_k_1 t_over_arrows_k_2)) (ssExpr (sxMt isL vExtend (sxVar 2) (saCons (sxLc fzL (siSeq (sxVar 6)) [7] (sgName 7) stYes t_over_arrows_k_3) saNil)))))
def t_over_arrows_k_5 : Ss := (ssEnd [3, 4, 5, 6] (ssWp [5, 6] (ssFor (siSeq (sxCall 2 m_things_in (saCons (sxVar 4) (saCons (sxC (.str "mark")) saNil)))) (sgName 5) t_over_arrows_k_4)))
def t_over_arrows_k : Ss := (ssSeq (ssSet 2 (sxN vNew saNil)) (ssSeq (ssWp [3, 4, 5, 6] (ssFor (siEnum (sxVar 0)) (sgTup 2 (sgCons (sgName 3) (sgCons (sgName 4) sgNil))) t_over_arrows_k_5)) (ssRet (sxVar 2))))
def pk_over_arrows : List PV → RR SO := makeF (bodyF 8 t_over_arrows_k)
def mk_over_arrows : Fs := liftK pk_over_arrows
def t_arrows_in_1 : Ss := (ssEnd [4] (ssExpr (sxMt isL vExtend (sxVar 3) (saCons (sxCall 3 m_look_arrows (saCons (sxVar 0) (saCons (sxVar 2) (saCons (sxVar 4) saNil)))) saNil))))
def t_arrows_in_2 : Sx := (sxVar 5)
def t_arrows_in : Ss := (ssSeq (ssSet 3 (sxCall 2 mk_over_arrows (saCons (sxVar 0) (saCons (sxVar 2) saNil)))) (ssSeq (ssWp [4] (ssFor (siSeq (sxCall 3 m_seen_in (saCons (sxVar 0) (saCons (sxVar 1) (saCons (sxVar 2) saNil))))) (sgName 4) t_arrows_in_1)) (ssFrz 3 (ssRet (sxN vSorted (saCons (sxTrim (sxN vListU (saCons (sxDu (siSeq (sxVar 3)) [5] (sgName 5) stYes t_arrows_in_2 (sxC (.bl true))) saNil))) saNil))))))
def p_arrows_in : List PV → RR PV := pureF (bodyF 6 t_arrows_in)
def m_arrows_in : Fs := liftP p_arrows_in
def t_arrows : Ss := (ssSeq (ssExpr (sxCall 3 m_need_all (saCons (sxVar 0) (saCons (sxVar 1) (saCons (sxVar 2) saNil))))) (ssRet (sxN vTuple (saCons (sxCall 3 m_arrows_in (saCons (sxVar 0) (saCons (sxVar 1) (saCons (sxCall 2 m_times_of (saCons (sxVar 0) (saCons (sxVar 2) saNil))) saNil)))) saNil))))
def p_arrows : List PV → RR PV := pureF (bodyF 3 t_arrows)
def m_arrows : Fs := liftP p_arrows
def t_l_is_over_1 : St' := (stAnd (stB (sx2 vEq (sxVar 5) (sxC (.str "mark")))) (stB (sxCall 2 m_l_marks (saCons (sx2 vItem (sxVar 0) (sxVar 3)) (saCons (sxVar 6) saNil)))))
def t_l_is_over_2 : Sx := (sxVar 6)
def t_l_is_over : Ss := (ssSeq (ssSet 4 (sxLc fzL (siSeq (sx2 vItem (sxVar 0) (sxVar 2))) [5, 6] (sgTup 2 (sgCons (sgName 5) (sgCons (sgName 6) sgNil))) t_l_is_over_1 t_l_is_over_2)) (ssRet (sxAnd (sx2 vNe (sxVar 4) (sxN vLst saNil)) (sx2 vLt (sx2 vItem (sx2 vItem (sxVar 1) (sxVar 2)) (sx1 vNeg (sxC (.int 1)))) (sx2 vItem (sx2 vItem (sxVar 1) (sxVar 3)) (sx1 vNeg (sxC (.int 1))))))))
def p_l_is_over : List PV → RR PV := pureF (bodyF 7 t_l_is_over)
def m_l_is_over : Fs := liftP p_l_is_over
def t_l_is_shown_1 : Ss := (ssEnd [5, 6] (ssIf (stB (sxCall 2 m_l_marks (saCons (sx2 vItem (sxVar 0) (sxVar 3)) (saCons (sx2 vItem (sx2 vItem (sx2 vItem (sxVar 0) (sxVar 4)) (sxVar 5)) (sxC (.int 1))) saNil)))) (ssSeq (ssSet 6 (sxCall 5 m_l_sight (saCons (sxVar 0) (saCons (sxVar 1) (saCons (sxVar 2) (saCons (sxVar 4) (saCons (sxVar 5) saNil))))))) (ssIf (stAnd (stB (sx2 vIsNotN (sxVar 6) (sxC .non))) (stB (sx2 vGe (sx2 vItem (sx2 vItem (sxVar 2) (sxVar 6)) (sx1 vNeg (sxC (.int 1)))) (sx2 vItem (sx2 vItem (sxVar 2) (sxVar 3)) (sx1 vNeg (sxC (.int 1))))))) (ssRet (sxC (.bl true))) ssNil)) ssNil))
def t_l_is_shown : Ss := (ssSeq (ssWp [5, 6] (ssFor (siSeq (sxCall 1 m_l_looks (saCons (sx2 vItem (sxVar 0) (sxVar 4)) saNil))) (sgName 5) t_l_is_shown_1)) (ssRet (sxC (.bl false))))
def p_l_is_shown : List PV → RR PV := pureF (bodyF 7 t_l_is_shown)
def m_l_is_shown : Fs := liftP p_l_is_shown
def t_l_is_missed_1 : Ss := (ssEnd [5, 6] (ssIf (stB (sxCall 2 m_l_marks (saCons (sx2 vItem (sxVar 0) (sxVar 4)) (saCons (sx2 vItem (sx2 vItem (sx2 vItem (sxVar 0) (sxVar 3)) (sxVar 5)) (sxC (.int 1))) saNil)))) (ssSeq (ssSet 6 (sxCall 5 m_l_sight (saCons (sxVar 0) (saCons (sxVar 1) (saCons (sxVar 2) (saCons (sxVar 3) (saCons (sxVar 5) saNil))))))) (ssIf (stOr (stB (sx2 vIsN (sxVar 6) (sxC .non))) (stB (sx2 vLt (sx2 vItem (sx2 vItem (sxVar 2) (sxVar 6)) (sx1 vNeg (sxC (.int 1)))) (sx2 vItem (sx2 vItem (sxVar 2) (sxVar 4)) (sx1 vNeg (sxC (.int 1))))))) (ssRet (sxC (.bl true))) ssNil)) ssNil))
def t_l_is_missed : Ss := (ssSeq (ssWp [5, 6] (ssFor (siSeq (sxCall 1 m_l_looks (saCons (sx2 vItem (sxVar 0) (sxVar 3)) saNil))) (sgName 5) t_l_is_missed_1)) (ssRet (sxC (.bl false))))
def p_l_is_missed : List PV → RR PV := pureF (bodyF 7 t_l_is_missed)
def m_l_is_missed : Fs := liftP p_l_is_missed
def t_l_arrows_1 : St' := (stB (sx2 vNe (sxVar 6) (sxVar 4)))
def t_l_arrows_2 : Sx := (sxVar 6)
def t_l_arrows_3 : Ss := (ssEnd [5] (ssSeq (ssIf (stB (sxCall 5 m_l_is_missed (saCons (sxVar 0) (saCons (sxVar 1) (saCons (sxVar 2) (saCons (sxVar 4) (saCons (sxVar 5) saNil))))))) (ssExpr (sxMt isL vAppend (sxVar 3) (saCons (sxN vTup (saCons (sxVar 4) (saCons (sxVar 5) (saCons (sxC (.str "missed")) saNil)))) saNil))) ssNil) (ssSeq (ssIf (stB (sxCall 4 m_l_is_over (saCons (sxVar 0) (saCons (sxVar 2) (saCons (sxVar 4) (saCons (sxVar 5) saNil)))))) (ssExpr (sxMt isL vAppend (sxVar 3) (saCons (sxN vTup (saCons (sxVar 4) (saCons (sxVar 5) (saCons (sxC (.str "over")) saNil)))) saNil))) ssNil) (ssIf (stB (sxCall 5 m_l_is_shown (saCons (sxVar 0) (saCons (sxVar 1) (saCons (sxVar 2) (saCons (sxVar 4) (saCons (sxVar 5) saNil))))))) (ssExpr (sxMt isL vAppend (sxVar 3) (saCons (sxN vTup (saCons (sxVar 4) (saCons (sxVar 5) (saCons (sxC (.str "shown")) saNil)))) saNil))) ssNil))))
def t_l_arrows_4 : Ss := (ssEnd [4, 5] (ssWp [5] (ssFor (siSeq (sxLc fzL (siRange1 (sxN vLen (saCons (sxVar 0) saNil))) [6] (sgName 6) t_l_arrows_1 t_l_arrows_2)) (sgName 5) t_l_arrows_3)))
def t_l_arrows : Ss := (ssSeq (ssSet 3 (sxN vNew saNil)) (ssSeq (ssWp [4, 5] (ssFor (siRange1 (sxN vLen (saCons (sxVar 0) saNil))) (sgName 4) t_l_arrows_4)) (ssFrz 3 (ssRet (sxVar 3)))))
def p_l_arrows : List PV → RR PV := pureF (bodyF 7 t_l_arrows)
def m_l_arrows : Fs := liftP p_l_arrows
def t_pairs_in_1 : Sx := (sxN vTup (saCons (sxVar 3) (saCons (sxVar 4) saNil)))
def t_pairs_in : Ss := (ssRet (sxLc fzL (siSeq (sxCall 3 m_arrows_in (saCons (sxVar 0) (saCons (sxVar 1) (saCons (sxCall 2 m_times_of (saCons (sxVar 0) (saCons (sxVar 2) saNil))) saNil))))) [3, 4, 5] (sgTup 3 (sgCons (sgName 3) (sgCons (sgName 4) (sgCons (sgName 5) sgNil)))) stYes t_pairs_in_1))
def p_pairs_in : List PV → RR PV := pureF (bodyF 6 t_pairs_in)
def m_pairs_in : Fs := liftP p_pairs_in
def t_l_rows_1 : St' := (stB (sx2 vNotIn (sxVar 6) (sxVar 5)))
def t_l_rows_2 : Sx := (sx2 vAdd (sxVar 5) (sxN vTup (saCons (sxVar 6) saNil)))
def t_l_rows_3 : Ss := (ssEnd [5] (ssSet 4 (sx2 vAdd (sxVar 4) (sxLc fzL (siRange1 (sxVar 0)) [6] (sgName 6) t_l_rows_1 t_l_rows_2))))
def t_l_rows_4 : Ss := (ssEnd [3, 4, 5] (ssSeq (ssSet 4 (sxN vLst saNil)) (ssSeq (ssWp [5] (ssFor (siSeq (sxVar 2)) (sgName 5) t_l_rows_3)) (ssSet 2 (sxVar 4)))))
def t_l_rows : Ss := (ssSeq (ssSet 2 (sxN vLst (saCons (sxN vTup saNil) saNil))) (ssSeq (ssWp [3, 4, 5] (ssFor (siRange1 (sxVar 1)) (sgName 3) t_l_rows_4)) (ssRet (sxVar 2))))
def p_l_rows : List PV → RR PV := pureF (bodyF 7 t_l_rows)
def m_l_rows : Fs := liftP p_l_rows
def t_do_overlap : Ss := (ssRet (sxAnd (sx2 vLt (sx2 vItem (sx2 vItem (sxVar 0) (sxVar 1)) (sxC (.int 0))) (sx2 vItem (sx2 vItem (sxVar 0) (sxVar 2)) (sx1 vNeg (sxC (.int 1))))) (sx2 vLt (sx2 vItem (sx2 vItem (sxVar 0) (sxVar 2)) (sxC (.int 0))) (sx2 vItem (sx2 vItem (sxVar 0) (sxVar 1)) (sx1 vNeg (sxC (.int 1)))))))
def p_do_overlap : List PV → RR PV := pureF (bodyF 3 t_do_overlap)
def m_do_overlap : Fs := liftP p_do_overlap
def t_is_pinch : Ss := (ssSeq (ssIf (stOr (stNot (stB (sxCall 3 m_do_overlap (saCons (sxVar 0) (saCons (sxVar 1) (saCons (sxVar 2) saNil)))))) (stNot (stB (sxCall 3 m_do_overlap (saCons (sxVar 0) (saCons (sxVar 2) (saCons (sxVar 3) saNil))))))) (ssRet (sxC (.bl false))) ssNil) (ssRet (sxAnd (sx2 vLt (sx2 vItem (sx2 vItem (sxVar 0) (sxVar 3)) (sx1 vNeg (sxC (.int 1)))) (sx2 vItem (sx2 vItem (sxVar 0) (sxVar 2)) (sx1 vNeg (sxC (.int 1))))) (sxOr (sx2 vEq (sxVar 1) (sxVar 3)) (sx2 vLt (sx2 vItem (sx2 vItem (sxVar 0) (sxVar 3)) (sx1 vNeg (sxC (.int 1)))) (sx2 vItem (sx2 vItem (sxVar 0) (sxVar 1)) (sx1 vNeg (sxC (.int 1)))))))))
def p_is_pinch : List PV → RR PV := pureF (bodyF 4 t_is_pinch)
def m_is_pinch : Fs := liftP p_is_pinch
def t_pinches_in_1 : St' := (stB (sx2 vEq (sxVar 10) (sxC (.str "missed"))))
def t_pinches_in_2 : Sx := (sxN vTup (saCons (sxVar 5) (saCons (sxVar 9) saNil)))
def t_pinches_in_3 : St' := (stAnd (stB (sx2 vEq (sx2 vItem (sxVar 1) (sxVar 5)) (sxC (.str "guarded")))) (stB (sx2 vEq (sx2 vItem (sxVar 1) (sxVar 9)) (sxC (.str "guarded")))))
def t_pinches_in_4 : Ss := (ssEnd [7, 8] (ssIf (stAnd (stB (sx2 vEq (sxVar 7) (sxVar 6))) (stB (sxCall 4 m_is_pinch (saCons (sxVar 2) (saCons (sxVar 5) (saCons (sxVar 6) (saCons (sxVar 8) saNil))))))) (ssExpr (sxMt isL vAppend (sxVar 4) (saCons (sxN vTup (saCons (sxVar 5) (saCons (sxVar 6) (saCons (sxVar 8) saNil)))) saNil))) ssNil))
def t_pinches_in_5 : Ss := (ssEnd [5, 6, 7, 8] (ssWp [7, 8] (ssFor (siSeq (sxVar 3)) (sgTup 2 (sgCons (sgName 7) (sgCons (sgName 8) sgNil))) t_pinches_in_4)))
def t_pinches_in : Ss := (ssSeq (ssSet 3 (sxLc fzL (siSeq (sxCall 3 m_arrows_in (saCons (sxVar 0) (saCons (sxVar 1) (saCons (sxVar 2) saNil))))) [5, 9, 10] (sgTup 3 (sgCons (sgName 5) (sgCons (sgName 9) (sgCons (sgName 10) sgNil)))) t_pinches_in_1 t_pinches_in_2)) (ssSeq (ssSet 3 (sxLc fzL (siSeq (sxVar 3)) [5, 9] (sgTup 2 (sgCons (sgName 5) (sgCons (sgName 9) sgNil))) t_pinches_in_3 t_pinches_in_2)) (ssSeq (ssSet 4 (sxN vNew saNil)) (ssSeq (ssWp [5, 6, 7, 8] (ssFor (siSeq (sxVar 3)) (sgTup 2 (sgCons (sgName 5) (sgCons (sgName 6) sgNil))) t_pinches_in_5)) (ssFrz 4 (ssRet (sxN vSorted (saCons (sxVar 4) saNil))))))))
def p_pinches_in : List PV → RR PV := pureF (bodyF 11 t_pinches_in)
def m_pinches_in : Fs := liftP p_pinches_in
def t_pinches : Ss := (ssSeq (ssExpr (sxCall 3 m_need_all (saCons (sxVar 0) (saCons (sxVar 1) (saCons (sxVar 2) saNil))))) (ssRet (sxN vTuple (saCons (sxCall 3 m_pinches_in (saCons (sxVar 0) (saCons (sxVar 1) (saCons (sxCall 2 m_times_of (saCons (sxVar 0) (saCons (sxVar 2) saNil))) saNil)))) saNil))))
def p_pinches : List PV → RR PV := pureF (bodyF 3 t_pinches)
def m_pinches : Fs := liftP p_pinches
def t_l_overlap : Ss := (ssRet (sxAnd (sx2 vLt (sx2 vItem (sx2 vItem (sxVar 0) (sxVar 1)) (sxC (.int 0))) (sx2 vItem (sx2 vItem (sxVar 0) (sxVar 2)) (sx1 vNeg (sxC (.int 1))))) (sx2 vLt (sx2 vItem (sx2 vItem (sxVar 0) (sxVar 2)) (sxC (.int 0))) (sx2 vItem (sx2 vItem (sxVar 0) (sxVar 1)) (sx1 vNeg (sxC (.int 1)))))))
def p_l_overlap : List PV → RR PV := pureF (bodyF 3 t_l_overlap)
def m_l_overlap : Fs := liftP p_l_overlap
def t_l_pinches_1 : St' := (stB (sx2 vEq (sx2 vItem (sxVar 10) (sxC (.int 2))) (sxC (.str "missed"))))
def t_l_pinches_2 : Sx := (sxSl vSl (sxVar 10) soNo (soPart (sxC (.int 2))))
def t_l_pinches_3 : St' := (stB (sx2 vEq (sxN vTup (saCons (sx2 vItem (sxVar 1) (sx2 vItem (sxVar 11) (sxC (.int 0)))) (saCons (sx2 vItem (sxVar 1) (sx2 vItem (sxVar 11) (sxC (.int 1)))) saNil))) (sxN vTup (saCons (sxC (.str "guarded")) (saCons (sxC (.str "guarded")) saNil)))))
def t_l_pinches_4 : Sx := (sxVar 11)
def t_l_pinches_5 : St' := (stB (sx2 vEq (sx2 vItem (sxVar 11) (sxC (.int 0))) (sxVar 6)))
def t_l_pinches_6 : Ss := (ssEnd [7, 8, 9] (ssSeq (ssSet 9 (sxAnd (sx2 vLt (sx2 vItem (sx2 vItem (sxVar 2) (sxVar 8)) (sx1 vNeg (sxC (.int 1)))) (sx2 vItem (sx2 vItem (sxVar 2) (sxVar 6)) (sx1 vNeg (sxC (.int 1))))) (sxOr (sx2 vEq (sxVar 8) (sxVar 5)) (sx2 vLt (sx2 vItem (sx2 vItem (sxVar 2) (sxVar 8)) (sx1 vNeg (sxC (.int 1)))) (sx2 vItem (sx2 vItem (sxVar 2) (sxVar 5)) (sx1 vNeg (sxC (.int 1)))))))) (ssIf (stAnd (stB (sxVar 9)) (stAnd (stB (sxCall 3 m_l_overlap (saCons (sxVar 2) (saCons (sxVar 5) (saCons (sxVar 6) saNil))))) (stB (sxCall 3 m_l_overlap (saCons (sxVar 2) (saCons (sxVar 6) (saCons (sxVar 8) saNil))))))) (ssExpr (sxMt isL vAppend (sxVar 4) (saCons (sxN vTup (saCons (sxVar 5) (saCons (sxVar 6) (saCons (sxVar 8) saNil)))) saNil))) ssNil)))
def t_l_pinches_7 : Ss := (ssEnd [5, 6, 7, 8, 9] (ssWp [7, 8, 9] (ssFor (siSeq (sxLc fzL (siSeq (sxVar 3)) [11] (sgName 11) t_l_pinches_5 t_l_pinches_4)) (sgTup 2 (sgCons (sgName 7) (sgCons (sgName 8) sgNil))) t_l_pinches_6)))
def t_l_pinches : Ss := (ssSeq (ssSet 3 (sxLc fzL (siSeq (sxCall 3 m_l_arrows (saCons (sxVar 0) (saCons (sxVar 1) (saCons (sxVar 2) saNil))))) [10] (sgName 10) t_l_pinches_1 t_l_pinches_2)) (ssSeq (ssSet 3 (sxLc fzL (siSeq (sxVar 3)) [11] (sgName 11) t_l_pinches_3 t_l_pinches_4)) (ssSeq (ssSet 4 (sxN vNew saNil)) (ssSeq (ssWp [5, 6, 7, 8, 9] (ssFor (siSeq (sxVar 3)) (sgTup 2 (sgCons (sgName 5) (sgCons (sgName 6) sgNil))) t_l_pinches_7)) (ssFrz 4 (ssRet (sxN vSorted (saCons (sxVar 4) saNil))))))))
def p_l_pinches : List PV → RR PV := pureF (bodyF 12 t_l_pinches)
def m_l_pinches : Fs := liftP p_l_pinches
def t_cut_of : Ss := (ssRet (sxN vTup (saCons (sx2 vItem (sxVar 0) (sxVar 2)) (saCons (sx2 vItem (sxVar 1) (sxVar 2)) (saCons (sxVar 3) saNil)))))
def p_cut_of : List PV → RR PV := pureF (bodyF 4 t_cut_of)
def m_cut_of : Fs := liftP p_cut_of
def t_is_struck_1 : Sx := (sx2 vIn (sxN vTup (saCons (sxC (.str "mark")) (saCons (sxVar 6) saNil))) (sxVar 1))
def t_is_struck : Ss := (ssSeq (ssAsg (sxVar 0) (sgTup 3 (sgCons (sgName 2) (sgCons (sgName 3) (sgCons (sgName 4) sgNil))))) (ssSeq (ssSet 5 (sxCall 2 m_things_in (saCons (sxIf (stB (sx2 vEq (sxVar 3) (sxC (.str "late")))) (sxSl vSl (sxVar 2) soNo (soPart (sxVar 4))) (sxVar 2)) (saCons (sxC (.str "mark")) saNil)))) (ssRet (sxN vAny (saCons (sxLc fzL (siSeq (sxVar 5)) [6] (sgName 6) stYes t_is_struck_1) saNil)))))
def p_is_struck : List PV → RR PV := pureF (bodyF 7 t_is_struck)
def m_is_struck : Fs := liftP p_is_struck
def t_does_warn_1 : Sx := (sx2 vIn (sxN vTup (saCons (sxC (.str "mark")) (saCons (sxVar 3) saNil))) (sxVar 2))
def t_does_warn : Ss := (ssSeq (ssIf (stOr (stB (sx2 vNe (sx2 vItem (sxVar 0) (sxC (.int 1))) (sxC (.str "guarded")))) (stB (sx2 vNe (sxVar 1) (sxC (.str "guarded"))))) (ssRet (sxC (.bl false))) ssNil) (ssRet (sxN vAny (saCons (sxLc fzL (siSeq (sxCall 2 m_things_in (saCons (sx2 vItem (sxVar 0) (sxC (.int 0))) (saCons (sxC (.str "look")) saNil)))) [3] (sgName 3) stYes t_does_warn_1) saNil))))
def p_does_warn : List PV → RR PV := pureF (bodyF 4 t_does_warn)
def m_does_warn : Fs := liftP p_does_warn
def t_does_catch_1 : Sx := (sx2 vIn (sxN vTup (saCons (sxC (.str "look")) (saCons (sxVar 3) saNil))) (sxVar 2))
def t_does_catch : Ss := (ssSeq (ssIf (stOr (stB (sx2 vNe (sx2 vItem (sxVar 0) (sxC (.int 1))) (sxC (.str "guarded")))) (stB (sx2 vNe (sxVar 1) (sxC (.str "guarded"))))) (ssRet (sxC (.bl false))) ssNil) (ssRet (sxN vAny (saCons (sxLc fzL (siSeq (sxCall 2 m_things_in (saCons (sx2 vItem (sxVar 0) (sxC (.int 0))) (saCons (sxC (.str "mark")) saNil)))) [3] (sgName 3) stYes t_does_catch_1) saNil))))
def p_does_catch : List PV → RR PV := pureF (bodyF 4 t_does_catch)
def m_does_catch : Fs := liftP p_does_catch
def t_warned_by : Ss := (ssSeq (ssSet 4 (sxOr (sxVar 3) (sxCall 3 m_does_warn (saCons (sxVar 0) (saCons (sxVar 1) (saCons (sxVar 2) saNil)))))) (ssSeq (ssIf (stOr (stB (sxCall 2 m_is_struck (saCons (sxVar 0) (saCons (sxVar 2) saNil)))) (stAnd (stB (sxVar 4)) (stB (sxCall 3 m_does_catch (saCons (sxVar 0) (saCons (sxVar 1) (saCons (sxVar 2) saNil))))))) (ssRet (sxC .non)) ssNil) (ssRet (sxVar 4))))
def p_warned_by : List PV → RR PV := pureF (bodyF 5 t_warned_by)
def m_warned_by : Fs := liftP p_warned_by
def t_can_begin : Ss := (ssRet (sx2 vIn (sxN vTup (saCons (sxC (.str "mark")) (saCons (sx2 vItem (sx2 vItem (sx2 vItem (sxVar 0) (sxC (.int 0))) (sx2 vItem (sxVar 0) (sxC (.int 2)))) (sxC (.int 1))) saNil))) (sxVar 1)))
def p_can_begin : List PV → RR PV := pureF (bodyF 2 t_can_begin)
def m_can_begin : Fs := liftP p_can_begin
def t_is_look : Ss := (ssRet (sx2 vEq (sx2 vItem (sx2 vItem (sx2 vItem (sxVar 0) (sxVar 1)) (sxVar 2)) (sxC (.int 0))) (sxC (.str "look"))))
def p_is_look : List PV → RR PV := pureF (bodyF 3 t_is_look)
def m_is_look : Fs := liftP p_is_look
def t_l_touch_1 : St' := (stAnd (stB (sx2 vEq (sxVar 5) (sxVar 3))) (stB (sx2 vIn (sxC (.str "mark")) (sxN vTup (saCons (sxVar 2) (saCons (sxVar 4) saNil))))))
def t_l_touch_2 : Sx := (sxC (.int 1))
def t_l_touch_3 : Ss := (ssEnd [2, 3] (ssIf (stB (sx2 vNe (sxLc fzL (siSeq (sxVar 1)) [4, 5] (sgTup 2 (sgCons (sgName 4) (sgCons (sgName 5) sgNil))) t_l_touch_1 t_l_touch_2) (sxN vLst saNil))) (ssRet (sxC (.bl true))) ssNil))
def t_l_touch : Ss := (ssSeq (ssWp [2, 3] (ssFor (siSeq (sxVar 0)) (sgTup 2 (sgCons (sgName 2) (sgCons (sgName 3) sgNil))) t_l_touch_3)) (ssRet (sxC (.bl false))))
def p_l_touch : List PV → RR PV := pureF (bodyF 6 t_l_touch)
def m_l_touch : Fs := liftP p_l_touch
def t_l_ends_1 : St' := (stAnd (stB (sx2 vEq (sxVar 4) (sxC (.str "look")))) (stB (sxCall 2 m_l_marks (saCons (sxVar 0) (saCons (sxVar 5) saNil)))))
def t_l_ends_2 : Sx := (sxVar 5)
def t_l_ends : Ss := (ssSeq (ssIf (stB (sx2 vNe (sxLc fzL (siSeq (sxVar 3)) [4, 5] (sgTup 2 (sgCons (sgName 4) (sgCons (sgName 5) sgNil))) t_l_ends_1 t_l_ends_2) (sxN vLst saNil))) (ssRet (sxC (.bl true))) ssNil) (ssRet (sxAnd (sx2 vEq (sxVar 1) (sxC (.str "late"))) (sxCall 2 m_l_touch (saCons (sxSl vSl (sxVar 0) (soPart (sx2 vAdd (sxVar 2) (sxC (.int 1)))) soNo) (saCons (sxVar 3) saNil))))))
def p_l_ends : List PV → RR PV := pureF (bodyF 6 t_l_ends)
def m_l_ends : Fs := liftP p_l_ends
def t_l_is_struck_1 : St' := (stAnd (stB (sx2 vEq (sxVar 5) (sxC (.str "mark")))) (stB (sxCall 2 m_l_marks (saCons (sxVar 4) (saCons (sxVar 6) saNil)))))
def t_l_is_struck_2 : Sx := (sxVar 6)
def t_l_is_struck : Ss := (ssSeq (ssSet 4 (sxIf (stB (sx2 vEq (sxVar 1) (sxC (.str "late")))) (sxSl vSl (sxVar 0) soNo (soPart (sxVar 2))) (sxVar 0))) (ssRet (sx2 vNe (sxLc fzL (siSeq (sxVar 3)) [5, 6] (sgTup 2 (sgCons (sgName 5) (sgCons (sgName 6) sgNil))) t_l_is_struck_1 t_l_is_struck_2) (sxN vLst saNil))))
def p_l_is_struck : List PV → RR PV := pureF (bodyF 7 t_l_is_struck)
def m_l_is_struck : Fs := liftP p_l_is_struck
def t_l_is_caught_1 : St' := (stAnd (stB (sx2 vEq (sxVar 9) (sxC (.str "look")))) (stB (sxCall 2 m_l_marks (saCons (sx2 vItem (sxVar 0) (sxVar 5)) (saCons (sxVar 10) saNil)))))
def t_l_is_caught_2 : Sx := (sxVar 10)
def t_l_is_caught_3 : St' := (stAnd (stB (sx2 vEq (sxVar 9) (sxC (.str "look")))) (stB (sxCall 2 m_l_marks (saCons (sx2 vItem (sxVar 0) (sxVar 2)) (saCons (sxVar 10) saNil)))))
def t_l_is_caught_4 : St' := (stB (sx2 vEq (sx2 vItem (sxVar 1) (sxVar 8)) (sxC (.str "guarded"))))
def t_l_is_caught_5 : Sx := (sxVar 8)
def t_l_is_caught_6 : Ss := (ssEnd [5, 6, 7] (ssSeq (ssSet 6 (sxLc fzL (siSeq (sx2 vItem (sxVar 0) (sxVar 2))) [9, 10] (sgTup 2 (sgCons (sgName 9) (sgCons (sgName 10) sgNil))) t_l_is_caught_1 t_l_is_caught_2)) (ssSeq (ssSet 4 (sxOr (sxVar 4) (sx2 vNe (sxVar 6) (sxN vLst saNil)))) (ssSeq (ssSet 7 (sxLc fzL (siSeq (sx2 vItem (sxVar 0) (sxVar 5))) [9, 10] (sgTup 2 (sgCons (sgName 9) (sgCons (sgName 10) sgNil))) t_l_is_caught_3 t_l_is_caught_2)) (ssIf (stAnd (stB (sxVar 4)) (stB (sx2 vNe (sxVar 7) (sxN vLst saNil)))) (ssRet (sxC (.bl true))) ssNil)))))
def t_l_is_caught : Ss := (ssSeq (ssIf (stB (sx2 vNe (sx2 vItem (sxVar 1) (sxVar 2)) (sxC (.str "guarded")))) (ssRet (sxC (.bl false))) ssNil) (ssSeq (ssSet 4 (sxC (.bl false))) (ssSeq (ssWp [5, 6, 7] (ssFor (siSeq (sxLc fzL (siSeq (sxVar 3)) [8] (sgName 8) t_l_is_caught_4 t_l_is_caught_5)) (sgName 5) t_l_is_caught_6)) (ssRet (sxC (.bl false))))))
def p_l_is_caught : List PV → RR PV := pureF (bodyF 11 t_l_is_caught)
def m_l_is_caught : Fs := liftP p_l_is_caught
def t_l_is_split_1 : St' := (stB (sxCall 4 m_l_is_struck (saCons (sx2 vItem (sxVar 0) (sxVar 2)) (saCons (sx2 vItem (sxVar 1) (sxVar 2)) (saCons (sxVar 3) (saCons (sx2 vItem (sxVar 0) (sxVar 5)) saNil))))))
def t_l_is_split_2 : Sx := (sxVar 5)
def t_l_is_split_3 : St' := (stNot (stB (sxCall 2 m_l_touch (saCons (sx2 vItem (sxVar 0) (sx2 vItem (sxVar 4) (sx2 vSub (sxVar 6) (sxC (.int 1))))) (saCons (sx2 vItem (sxVar 0) (sx2 vItem (sxVar 4) (sxVar 6))) saNil)))))
def t_l_is_split_4 : Sx := (sxVar 6)
def t_l_is_split : Ss := (ssSeq (ssIf (stOr (stNot (stB (sxCall 2 m_l_marks (saCons (sx2 vItem (sxVar 0) (sx2 vItem (sxVar 4) (sxC (.int 0)))) (saCons (sx2 vItem (sx2 vItem (sx2 vItem (sxVar 0) (sxVar 2)) (sxVar 3)) (sxC (.int 1))) saNil))))) (stB (sxCall 4 m_l_is_caught (saCons (sxVar 0) (saCons (sxVar 1) (saCons (sxVar 2) (saCons (sxVar 4) saNil))))))) (ssRet (sxC (.bl false))) ssNil) (ssSeq (ssIf (stB (sx2 vNe (sxLc fzL (siSeq (sxVar 4)) [5] (sgName 5) t_l_is_split_1 t_l_is_split_2) (sxN vLst saNil))) (ssRet (sxC (.bl false))) ssNil) (ssSeq (ssIf (stB (sx2 vNe (sxLc fzL (siRange2 (sxC (.int 1)) (sxN vLen (saCons (sxVar 4) saNil))) [6] (sgName 6) t_l_is_split_3 t_l_is_split_4) (sxN vLst saNil))) (ssRet (sxC (.bl false))) ssNil) (ssRet (sxCall 4 m_l_ends (saCons (sx2 vItem (sxVar 0) (sxVar 2)) (saCons (sx2 vItem (sxVar 1) (sxVar 2)) (saCons (sxVar 3) (saCons (sx2 vItem (sxVar 0) (sx2 vItem (sxVar 4) (sx1 vNeg (sxC (.int 1))))) saNil)))))))))
def p_l_is_split : List PV → RR PV := pureF (bodyF 7 t_l_is_split)
def m_l_is_split : Fs := liftP p_l_is_split
def t_l_splits_1 : St' := (stB (sx2 vNotIn (sxVar 3) (sxVar 7)))
def t_l_splits_2 : Sx := (sxVar 7)
def t_l_splits_3 : St' := (stB (sxCall 5 m_l_is_split (saCons (sxVar 0) (saCons (sxVar 1) (saCons (sxVar 3) (saCons (sxVar 4) (saCons (sxVar 7) saNil)))))))
def t_l_splits_4 : Sx := (sxN vTup (saCons (sxVar 3) (saCons (sxVar 4) (saCons (sxVar 7) saNil))))
def t_l_splits_5 : Ss := (ssEnd [5, 6] (ssSeq (ssSet 6 (sxLc fzL (siSeq (sxCall 2 m_l_rows (saCons (sxN vLen (saCons (sxVar 0) saNil)) (saCons (sxVar 5) saNil)))) [7] (sgName 7) t_l_splits_1 t_l_splits_2)) (ssSet 2 (sx2 vAdd (sxVar 2) (sxLc fzL (siSeq (sxVar 6)) [7] (sgName 7) t_l_splits_3 t_l_splits_4)))))
def t_l_splits_6 : Ss := (ssEnd [4, 5, 6] (ssWp [5, 6] (ssFor (siRange2 (sxC (.int 1)) (sxN vLen (saCons (sxVar 0) saNil))) (sgName 5) t_l_splits_5)))
def t_l_splits_7 : Ss := (ssEnd [3, 4, 5, 6] (ssWp [4, 5, 6] (ssFor (siSeq (sxCall 1 m_l_looks (saCons (sx2 vItem (sxVar 0) (sxVar 3)) saNil))) (sgName 4) t_l_splits_6)))
def t_l_splits : Ss := (ssSeq (ssSet 2 (sxN vLst saNil)) (ssSeq (ssWp [3, 4, 5, 6] (ssFor (siRange1 (sxN vLen (saCons (sxVar 0) saNil))) (sgName 3) t_l_splits_7)) (ssRet (sxN vSorted (saCons (sxVar 2) saNil)))))
def p_l_splits : List PV → RR PV := pureF (bodyF 8 t_l_splits)
def m_l_splits : Fs := liftP p_l_splits
def t_l_is_number : Ss := (ssRet (sxAnd (sx1 (vIsInst "int") (sxVar 0)) (sxAnd (sxNot (sx1 (vIsInst "bool") (sxVar 0))) (sxChain vLe vLt (sxC (.int 0)) (sxVar 0) (sxVar 1)))))
def p_l_is_number : List PV → RR PV := pureF (bodyF 2 t_l_is_number)
def m_l_is_number : Fs := liftP p_l_is_number
def t_l_odds : Ss := (ssRet (sxN vLst (saCons (sxC .non) (saCons (sxC (.int 0)) (saCons (sxC (.bl true)) (saCons (sxC (.str "")) (saCons (sxC (.str "split")) (saCons (sxN vTup saNil) (saCons (sxN vLst saNil) (saCons (sxDisp []) (saCons (sxN vTup (saCons (sxC (.int 0)) saNil)) (saCons (sxN vTup (saCons (sxC (.int 0)) (saCons (sxC (.int 0)) saNil))) (saCons (sxN vTup (saCons (sxN vTup (saCons (sxC (.int 0)) (saCons (sxC (.int 0)) (saCons (sxN vTup (saCons (sxC (.int 1)) saNil)) saNil)))) saNil)) (saCons (sxN vTup (saCons (sxC (.str "split")) (saCons (sxN vTup (saCons (sxC (.int 0)) (saCons (sxC (.int 0)) (saCons (sxN vTup (saCons (sxC (.int 1)) saNil)) saNil)))) saNil))) (saCons (sx2 vPow (sxC (.int 10)) (sxC (.int 30))) saNil)))))))))))))))
def p_l_odds : List PV → RR PV := pureF (bodyF 0 t_l_odds)
def m_l_odds : Fs := liftP p_l_odds
def t_run_by_1 : St' := (stAnd (stB (sx2 vNe (sxVar 7) (sxVar 2))) (stB (sx2 vNotIn (sxVar 7) (sxVar 4))))
def t_run_by_2 : Sx := (sxVar 7)
def t_run_by_3 : Ss := (ssEnd [7] (ssExpr (sxMt isL vExtend (sxVar 5) (saCons (sx2 vMulT (sxN vLst (saCons (sxVar 7) saNil)) (sx2 vAdd (sxN vLen (saCons (sx2 vItem (sxVar 0) (sxVar 7)) saNil)) (sxC (.int 1)))) saNil))))
def t_run_by : Ss := (ssSeq (ssAsg (sxVar 1) (sgTup 3 (sgCons (sgName 2) (sgCons (sgName 3) (sgCons (sgName 4) sgNil))))) (ssSeq (ssSet 5 (sx2 vMulT (sxN vLst (saCons (sxVar 2) saNil)) (sx2 vAdd (sxVar 3) (sxC (.int 1))))) (ssSeq (ssSet 6 (sxLc fzL (siRange1 (sxN vLen (saCons (sxVar 0) saNil))) [7] (sgName 7) t_run_by_1 t_run_by_2)) (ssSeq (ssWp [7] (ssFor (siSeq (sxVar 4)) (sgName 7) t_run_by_3)) (ssSeq (ssExpr (sxMt isL vExtend (sxVar 5) (saCons (sx2 vMulT (sxN vLst (saCons (sxVar 2) saNil)) (sx2 vSub (sxN vLen (saCons (sx2 vItem (sxVar 0) (sxVar 2)) saNil)) (sxVar 3))) saNil))) (ssSeq (ssWp [7] (ssFor (siSeq (sxVar 6)) (sgName 7) t_run_by_3)) (ssFrz 5 (ssRet (sxN vTuple (saCons (sxVar 5) saNil))))))))))
def p_run_by : List PV → RR PV := pureF (bodyF 8 t_run_by)
def m_run_by : Fs := liftP p_run_by
def t_walks_from_1 : Ss := (ssEnd [6, 7, 8] (ssSeq (ssSet 8 (sxCall 4 m_warned_by (saCons (sxVar 4) (saCons (sx2 vItem (sxVar 1) (sxVar 6)) (saCons (sxVar 7) (saCons (sxC (.bl false)) saNil)))))) (ssIf (stAnd (stB (sx2 vNe (sxVar 6) (sxVar 2))) (stAnd (stB (sxCall 2 m_can_begin (saCons (sxVar 4) (saCons (sxVar 7) saNil)))) (stB (sx2 vIsNotN (sxVar 8) (sxC .non))))) (ssExpr (sxMt isL vAppend (sxVar 5) (saCons (sxN vTup (saCons (sxVar 2) (saCons (sxVar 3) (saCons (sxVar 6) (saCons (sxVar 8) saNil))))) saNil))) ssNil)))
def t_walks_from : Ss := (ssSeq (ssPar 4 5 (saCons (sxCall 4 m_cut_of (saCons (sxVar 0) (saCons (sxVar 1) (saCons (sxVar 2) (saCons (sxVar 3) saNil))))) (saCons (sxN vNew saNil) saNil))) (ssSeq (ssWp [6, 7, 8] (ssFor (siEnum (sxVar 0)) (sgTup 2 (sgCons (sgName 6) (sgCons (sgName 7) sgNil))) t_walks_from_1)) (ssFrz 5 (ssRet (sxVar 5)))))
def p_walks_from : List PV → RR PV := pureF (bodyF 9 t_walks_from)
def m_walks_from : Fs := liftP p_walks_from
def t_walks_behind_1 : Ss := (ssEnd [9, 10, 11] (ssIf (stAnd (stB (sx2 vNotIn (sxVar 9) (sxN vTup (saCons (sxVar 3) (saCons (sxVar 5) saNil))))) (stB (sx2 vNe (sxCall 2 m_touching_in (saCons (sx2 vItem (sxVar 0) (sxVar 5)) (saCons (sxVar 10) saNil))) (sxN vLst saNil)))) (ssSeq (ssSet 11 (sxCall 4 m_warned_by (saCons (sxVar 7) (saCons (sx2 vItem (sxVar 1) (sxVar 9)) (saCons (sxVar 10) (saCons (sxVar 6) saNil)))))) (ssIf (stB (sx2 vIsNotN (sxVar 11) (sxC .non))) (ssExpr (sxMt isL vAppend (sxVar 8) (saCons (sxN vTup (saCons (sxVar 3) (saCons (sxVar 4) (saCons (sxVar 9) (saCons (sxVar 11) saNil))))) saNil))) ssNil)) ssNil))
def t_walks_behind : Ss := (ssSeq (ssAsg (sxVar 2) (sgTup 4 (sgCons (sgName 3) (sgCons (sgName 4) (sgCons (sgName 5) (sgCons (sgName 6) sgNil)))))) (ssSeq (ssPar 7 8 (saCons (sxCall 4 m_cut_of (saCons (sxVar 0) (saCons (sxVar 1) (saCons (sxVar 3) (saCons (sxVar 4) saNil))))) (saCons (sxN vNew saNil) saNil))) (ssSeq (ssWp [9, 10, 11] (ssFor (siEnum (sxVar 0)) (sgTup 2 (sgCons (sgName 9) (sgCons (sgName 10) sgNil))) t_walks_behind_1)) (ssFrz 8 (ssRet (sxVar 8))))))
def p_walks_behind : List PV → RR PV := pureF (bodyF 12 t_walks_behind)
def m_walks_behind : Fs := liftP p_walks_behind
def t_l_how_many_1 : Ss := (ssEnd [4] (ssSeq (ssSet 2 (sx2 vAdd (sxVar 2) (sxC (.int 1)))) (ssSet 1 (sx2 vFDiv (sx2 vMulT (sxVar 1) (sxVar 2)) (sx2 vAdd (sxVar 4) (sxC (.int 1)))))))
def t_l_how_many_2 : Ss := (ssEnd [3, 4] (ssWp [4] (ssFor (siRange1 (sx2 vAdd (sxN vLen (saCons (sxVar 3) saNil)) (sxC (.int 1)))) (sgName 4) t_l_how_many_1)))
def t_l_how_many : Ss := (ssSeq (ssPar 1 2 (saCons (sxC (.int 1)) (saCons (sxC (.int 0)) saNil))) (ssSeq (ssWp [3, 4] (ssFor (siSeq (sxVar 0)) (sgName 3) t_l_how_many_2)) (ssRet (sxVar 1))))
def p_l_how_many : List PV → RR PV := pureF (bodyF 5 t_l_how_many)
def m_l_how_many : Fs := liftP p_l_how_many
def t_is_walk : Ss := (ssSeq (ssIf (stOr (stNot (stB (sx1 (vIsInst "tuple") (sxVar 2)))) (stOr (stB (sx2 vNe (sxN vLen (saCons (sxVar 2) saNil)) (sxC (.int 4)))) (stNot (stB (sx1 (vIsInst "bool") (sx2 vItem (sxVar 2) (sxC (.int 3)))))))) (ssRet (sxC (.bl false))) ssNil) (ssSeq (ssAsg (sxVar 2) (sgTup 4 (sgCons (sgName 3) (sgCons (sgName 4) (sgCons (sgName 5) (sgCons (sgName 6) sgNil)))))) (ssSeq (ssIf (stOr (stNot (stB (sxCall 3 m_is_whole (saCons (sxVar 3) (saCons (sxC (.int 0)) (saCons (sx2 vSub (sxN vLen (saCons (sxVar 0) saNil)) (sxC (.int 1))) saNil)))))) (stOr (stNot (stB (sxCall 3 m_is_whole (saCons (sxVar 5) (saCons (sxC (.int 0)) (saCons (sx2 vSub (sxN vLen (saCons (sxVar 0) saNil)) (sxC (.int 1))) saNil)))))) (stB (sx2 vEq (sxVar 3) (sxVar 5))))) (ssRet (sxC (.bl false))) ssNil) (ssSeq (ssIf (stOr (stNot (stB (sxCall 3 m_is_whole (saCons (sxVar 4) (saCons (sxC (.int 0)) (saCons (sx2 vSub (sxN vLen (saCons (sx2 vItem (sxVar 0) (sxVar 3)) saNil)) (sxC (.int 1))) saNil)))))) (stNot (stB (sxCall 3 m_is_look (saCons (sxVar 0) (saCons (sxVar 3) (saCons (sxVar 4) saNil))))))) (ssRet (sxC (.bl false))) ssNil) (ssSeq (ssSet 7 (sxCall 4 m_cut_of (saCons (sxVar 0) (saCons (sxVar 1) (saCons (sxVar 3) (saCons (sxVar 4) saNil)))))) (ssRet (sxAnd (sxNot (sxCall 2 m_is_struck (saCons (sxVar 7) (saCons (sx2 vItem (sxVar 0) (sxVar 5)) saNil)))) (sxNot (sxAnd (sxVar 6) (sxCall 3 m_does_catch (saCons (sxVar 7) (saCons (sx2 vItem (sxVar 1) (sxVar 5)) (saCons (sx2 vItem (sxVar 0) (sxVar 5)) saNil)))))))))))))
def p_is_walk : List PV → RR PV := pureF (bodyF 8 t_is_walk)
def m_is_walk : Fs := liftP p_is_walk
def t_l_is_barred_1 : St' := (stAnd (stB (sx2 vEq (sxVar 7) (sxC (.str "look")))) (stB (sxCall 2 m_l_marks (saCons (sx2 vItem (sxVar 0) (sxVar 3)) (saCons (sxVar 8) saNil)))))
def t_l_is_barred_2 : Sx := (sxVar 8)
def t_l_is_barred : Ss := (ssSeq (ssAsg (sxVar 2) (sgTup 4 (sgCons (sgName 3) (sgCons (sgName 4) (sgCons (sgName 5) (sgCons (sgName 6) sgNil)))))) (ssSeq (ssIf (stB (sxCall 4 m_l_is_struck (saCons (sx2 vItem (sxVar 0) (sxVar 3)) (saCons (sx2 vItem (sxVar 1) (sxVar 3)) (saCons (sxVar 4) (saCons (sx2 vItem (sxVar 0) (sxVar 5)) saNil)))))) (ssRet (sxC (.bl true))) ssNil) (ssSeq (ssIf (stOr (stNot (stB (sxVar 6))) (stB (sx2 vNe (sxN vTup (saCons (sx2 vItem (sxVar 1) (sxVar 3)) (saCons (sx2 vItem (sxVar 1) (sxVar 5)) saNil))) (sxN vTup (saCons (sxC (.str "guarded")) (saCons (sxC (.str "guarded")) saNil)))))) (ssRet (sxC (.bl false))) ssNil) (ssRet (sx2 vNe (sxLc fzL (siSeq (sx2 vItem (sxVar 0) (sxVar 5))) [7, 8] (sgTup 2 (sgCons (sgName 7) (sgCons (sgName 8) sgNil))) t_l_is_barred_1 t_l_is_barred_2) (sxN vLst saNil))))))
def p_l_is_barred : List PV → RR PV := pureF (bodyF 9 t_l_is_barred)
def m_l_is_barred : Fs := liftP p_l_is_barred
def t_l_first_walks_1 : Ss := (ssEnd [5, 6] (ssSeq (ssSet 6 (sxN vTup (saCons (sxVar 3) (saCons (sxVar 4) (saCons (sxVar 5) (saCons (sx2 vEq (sxN vTup (saCons (sx2 vItem (sxVar 1) (sxVar 3)) (saCons (sx2 vItem (sxVar 1) (sxVar 5)) saNil))) (sxN vTup (saCons (sxC (.str "guarded")) (saCons (sxC (.str "guarded")) saNil)))) saNil)))))) (ssIf (stAnd (stB (sx2 vNe (sxVar 5) (sxVar 3))) (stAnd (stB (sxCall 2 m_l_marks (saCons (sx2 vItem (sxVar 0) (sxVar 5)) (saCons (sx2 vItem (sx2 vItem (sx2 vItem (sxVar 0) (sxVar 3)) (sxVar 4)) (sxC (.int 1))) saNil)))) (stNot (stB (sxCall 3 m_l_is_barred (saCons (sxVar 0) (saCons (sxVar 1) (saCons (sxVar 6) saNil)))))))) (ssExpr (sxMt isL vAppend (sxVar 2) (saCons (sxVar 6) saNil))) ssNil)))
def t_l_first_walks_2 : Ss := (ssEnd [4, 5, 6] (ssWp [5, 6] (ssFor (siRange1 (sxN vLen (saCons (sxVar 0) saNil))) (sgName 5) t_l_first_walks_1)))
def t_l_first_walks_3 : Ss := (ssEnd [3, 4, 5, 6] (ssWp [4, 5, 6] (ssFor (siSeq (sxCall 1 m_l_looks (saCons (sx2 vItem (sxVar 0) (sxVar 3)) saNil))) (sgName 4) t_l_first_walks_2)))
def t_l_first_walks : Ss := (ssSeq (ssSet 2 (sxN vNew saNil)) (ssSeq (ssWp [3, 4, 5, 6] (ssFor (siRange1 (sxN vLen (saCons (sxVar 0) saNil))) (sgName 3) t_l_first_walks_3)) (ssFrz 2 (ssRet (sxVar 2)))))
def p_l_first_walks : List PV → RR PV := pureF (bodyF 7 t_l_first_walks)
def m_l_first_walks : Fs := liftP p_l_first_walks
def t_l_later_walks_1 : St' := (stAnd (stB (sx2 vEq (sxVar 12) (sxC (.str "look")))) (stB (sxCall 2 m_l_marks (saCons (sx2 vItem (sxVar 0) (sxVar 8)) (saCons (sxVar 13) saNil)))))
def t_l_later_walks_2 : Sx := (sxVar 13)
def t_l_later_walks_3 : Ss := (ssEnd [8, 9, 10, 11] (ssIf (stAnd (stB (sx2 vNotIn (sxVar 8) (sxN vTup (saCons (sxVar 3) (saCons (sxVar 5) saNil))))) (stB (sxCall 2 m_l_touch (saCons (sx2 vItem (sxVar 0) (sxVar 5)) (saCons (sx2 vItem (sxVar 0) (sxVar 8)) saNil))))) (ssSeq (ssSet 9 (sxLc fzL (siSeq (sx2 vItem (sxVar 0) (sxVar 3))) [12, 13] (sgTup 2 (sgCons (sgName 12) (sgCons (sgName 13) sgNil))) t_l_later_walks_1 t_l_later_walks_2)) (ssSeq (ssSet 10 (sxAnd (sx2 vNe (sxVar 9) (sxN vLst saNil)) (sx2 vEq (sxN vTup (saCons (sx2 vItem (sxVar 1) (sxVar 3)) (saCons (sx2 vItem (sxVar 1) (sxVar 8)) saNil))) (sxN vTup (saCons (sxC (.str "guarded")) (saCons (sxC (.str "guarded")) saNil)))))) (ssSeq (ssSet 11 (sxN vTup (saCons (sxVar 3) (saCons (sxVar 4) (saCons (sxVar 8) (saCons (sxOr (sxVar 6) (sxVar 10)) saNil)))))) (ssIf (stNot (stB (sxCall 3 m_l_is_barred (saCons (sxVar 0) (saCons (sxVar 1) (saCons (sxVar 11) saNil)))))) (ssExpr (sxMt isL vAppend (sxVar 7) (saCons (sxVar 11) saNil))) ssNil)))) ssNil))
def t_l_later_walks : Ss := (ssSeq (ssAsg (sxVar 2) (sgTup 4 (sgCons (sgName 3) (sgCons (sgName 4) (sgCons (sgName 5) (sgCons (sgName 6) sgNil)))))) (ssSeq (ssSet 7 (sxN vNew saNil)) (ssSeq (ssWp [8, 9, 10, 11] (ssFor (siRange1 (sxN vLen (saCons (sxVar 0) saNil))) (sgName 8) t_l_later_walks_3)) (ssFrz 7 (ssRet (sxVar 7))))))
def p_l_later_walks : List PV → RR PV := pureF (bodyF 14 t_l_later_walks)
def m_l_later_walks : Fs := liftP p_l_later_walks
def t_l_is_look : Ss := (ssSeq (ssIf (stOr (stNot (stB (sxCall 2 m_l_is_number (saCons (sxVar 1) (saCons (sxN vLen (saCons (sxVar 0) saNil)) saNil))))) (stNot (stB (sxCall 2 m_l_is_number (saCons (sxVar 2) (saCons (sxN vLen (saCons (sx2 vItem (sxVar 0) (sxVar 1)) saNil)) saNil)))))) (ssRet (sxC (.bl false))) ssNil) (ssRet (sx2 vEq (sx2 vItem (sx2 vItem (sx2 vItem (sxVar 0) (sxVar 1)) (sxVar 2)) (sxC (.int 0))) (sxC (.str "look")))))
def p_l_is_look : List PV → RR PV := pureF (bodyF 3 t_l_is_look)
def m_l_is_look : Fs := liftP p_l_is_look
def t_l_is_walk : Ss := (ssSeq (ssIf (stOr (stNot (stB (sx1 (vIsInst "tuple") (sxVar 2)))) (stOr (stB (sx2 vNe (sxN vLen (saCons (sxVar 2) saNil)) (sxC (.int 4)))) (stNot (stB (sx1 (vIsInst "bool") (sx2 vItem (sxVar 2) (sxC (.int 3)))))))) (ssRet (sxC (.bl false))) ssNil) (ssSeq (ssIf (stOr (stNot (stB (sxCall 3 m_l_is_look (saCons (sxVar 0) (saCons (sx2 vItem (sxVar 2) (sxC (.int 0))) (saCons (sx2 vItem (sxVar 2) (sxC (.int 1))) saNil)))))) (stOr (stNot (stB (sxCall 2 m_l_is_number (saCons (sx2 vItem (sxVar 2) (sxC (.int 2))) (saCons (sxN vLen (saCons (sxVar 0) saNil)) saNil))))) (stB (sx2 vEq (sx2 vItem (sxVar 2) (sxC (.int 2))) (sx2 vItem (sxVar 2) (sxC (.int 0))))))) (ssRet (sxC (.bl false))) ssNil) (ssRet (sxNot (sxCall 3 m_l_is_barred (saCons (sxVar 0) (saCons (sxVar 1) (saCons (sxVar 2) saNil))))))))
def p_l_is_walk : List PV → RR PV := pureF (bodyF 3 t_l_is_walk)
def m_l_is_walk : Fs := liftP p_l_is_walk
def t_l_is_table_1 : St' := (stNot (stB (sxCall 3 m_l_is_walk (saCons (sxVar 0) (saCons (sxVar 1) (saCons (sxVar 8) saNil))))))
def t_l_is_table_2 : Sx := (sxC (.int 1))
def t_l_is_table_3 : St' := (stB (sx2 vGe (sxVar 9) (sxVar 10)))
def t_l_is_table_4 : Ss := (ssEnd [4, 5, 6, 7] (ssSeq (ssIf (stB (sxCall 4 m_l_ends (saCons (sx2 vItem (sxVar 0) (sxVar 4)) (saCons (sx2 vItem (sxVar 1) (sxVar 4)) (saCons (sxVar 5) (saCons (sx2 vItem (sxVar 0) (sxVar 6)) saNil)))))) (ssRet (sxC (.bl false))) ssNil) (ssSet 3 (sx2 vAdd (sxVar 3) (sxCall 3 m_l_later_walks (saCons (sxVar 0) (saCons (sxVar 1) (saCons (sxN vTup (saCons (sxVar 4) (saCons (sxVar 5) (saCons (sxVar 6) (saCons (sxVar 7) saNil))))) saNil))))))))
def t_l_is_table_5 : St' := (stB (sx2 vNotIn (sxVar 8) (sxVar 2)))
def t_l_is_table : Ss := (ssSeq (ssIf (stOr (stNot (stB (sx1 (vIsInst "tuple") (sxVar 2)))) (stB (sx2 vNe (sxLc fzL (siSeq (sxVar 2)) [8] (sgName 8) t_l_is_table_1 t_l_is_table_2) (sxN vLst saNil)))) (ssRet (sxC (.bl false))) ssNil) (ssSeq (ssIf (stB (sx2 vNe (sxLc fzL (siZip (sxVar 2) (sxSl vSl (sxVar 2) (soPart (sxC (.int 1))) soNo)) [9, 10] (sgTup 2 (sgCons (sgName 9) (sgCons (sgName 10) sgNil))) t_l_is_table_3 t_l_is_table_2) (sxN vLst saNil))) (ssRet (sxC (.bl false))) ssNil) (ssSeq (ssSet 3 (sxCall 2 m_l_first_walks (saCons (sxVar 0) (saCons (sxVar 1) saNil)))) (ssSeq (ssWp [4, 5, 6, 7] (ssFor (siSeq (sxVar 2)) (sgTup 4 (sgCons (sgName 4) (sgCons (sgName 5) (sgCons (sgName 6) (sgCons (sgName 7) sgNil))))) t_l_is_table_4)) (ssRet (sx2 vEq (sxLc fzL (siSeq (sxVar 3)) [8] (sgName 8) t_l_is_table_5 t_l_is_table_2) (sxN vLst saNil)))))))
def p_l_is_table : List PV → RR PV := pureF (bodyF 11 t_l_is_table)
def m_l_is_table : Fs := liftP p_l_is_table
def t_l_all_tiers_1 : Sx := (sx2 vAdd (sxVar 4) (sxN vTup (saCons (sxVar 5) saNil)))
def t_l_all_tiers_2 : Ss := (ssEnd [4] (ssSet 3 (sx2 vAdd (sxVar 3) (sxLc fzL (siSeq (sxN vTup (saCons (sxC (.str "early")) (saCons (sxC (.str "guarded")) (saCons (sxC (.str "late")) saNil))))) [5] (sgName 5) stYes t_l_all_tiers_1))))
def t_l_all_tiers_3 : Ss := (ssEnd [2, 3, 4] (ssSeq (ssSet 3 (sxN vLst saNil)) (ssSeq (ssWp [4] (ssFor (siSeq (sxVar 1)) (sgName 4) t_l_all_tiers_2)) (ssSet 1 (sxVar 3)))))
def t_l_all_tiers : Ss := (ssSeq (ssSet 1 (sxN vLst (saCons (sxN vTup saNil) saNil))) (ssSeq (ssWp [2, 3, 4] (ssFor (siSeq (sxVar 0)) (sgName 2) t_l_all_tiers_3)) (ssRet (sxVar 1))))
def p_l_all_tiers : List PV → RR PV := pureF (bodyF 6 t_l_all_tiers)
def m_l_all_tiers : Fs := liftP p_l_all_tiers
def t_are_of_sort : Ss := (ssRet (sx2 vEq (sx2 vItem (sxVar 0) (sxC (.int 0))) (sx2 vItem (sxVar 1) (sxC (.int 0)))))
def p_are_of_sort : List PV → RR PV := pureF (bodyF 2 t_are_of_sort)
def m_are_of_sort : Fs := liftP p_are_of_sort
def t_l_faces_1 : St' := (stAnd (stB (sx2 vEq (sx2 vItem (sxVar 7) (sxC (.int 0))) (sx2 vItem (sxVar 3) (sxC (.int 0))))) (stB (sx2 vNotIn (sxVar 7) (sxVar 5))))
def t_l_faces_2 : Sx := (sxVar 7)
def t_l_faces_3 : Sx := (sx2 vAdd (sxVar 5) (sxN vTup (saCons (sxVar 7) saNil)))
def t_l_faces_4 : Ss := (ssEnd [5, 6] (ssSeq (ssSet 6 (sxLc fzL (siSeq (sxVar 1)) [7] (sgName 7) t_l_faces_1 t_l_faces_2)) (ssSet 4 (sx2 vAdd (sxVar 4) (sxLc fzL (siSeq (sx2 vAdd (sxN vLst (saCons (sxC .non) saNil)) (sxVar 6))) [7] (sgName 7) stYes t_l_faces_3)))))
def t_l_faces_5 : Ss := (ssEnd [3, 4, 5, 6] (ssSeq (ssSet 4 (sxN vLst saNil)) (ssSeq (ssWp [5, 6] (ssFor (siSeq (sxVar 2)) (sgName 5) t_l_faces_4)) (ssSet 2 (sxVar 4)))))
def t_l_faces : Ss := (ssSeq (ssSet 2 (sxN vLst (saCons (sxN vTup saNil) saNil))) (ssSeq (ssWp [3, 4, 5, 6] (ssFor (siSeq (sxVar 0)) (sgName 3) t_l_faces_5)) (ssRet (sxVar 2))))
def p_l_faces : List PV → RR PV := pureF (bodyF 8 t_l_faces)
def m_l_faces : Fs := liftP p_l_faces
def t_l_wary_1 : St' := (stAnd (stB (sx2 vEq (sxVar 7) (sxC (.str "mark")))) (stB (sx2 vIn (sxN vTup (saCons (sxC (.str "look")) (saCons (sxVar 8) saNil))) (sx2 vItem (sxVar 0) (sxVar 2)))))
def t_l_wary_2 : Sx := (sxVar 8)
def t_l_wary_3 : St' := (stAnd (stB (sx2 vEq (sxVar 7) (sxC (.str "look")))) (stB (sxCall 2 m_l_marks (saCons (sx2 vItem (sxVar 0) (sxVar 2)) (saCons (sxVar 8) saNil)))))
def t_l_wary : Ss := (ssSeq (ssIf (stOr (stB (sx2 vNe (sx2 vItem (sxVar 1) (sxVar 2)) (sxC (.str "guarded")))) (stB (sx2 vNe (sx2 vItem (sxVar 1) (sxVar 3)) (sxC (.str "guarded"))))) (ssRet (sxN vTup (saCons (sxC (.bl false)) (saCons (sxC (.bl false)) saNil)))) ssNil) (ssSeq (ssSet 5 (sxLc fzL (siSeq (sxVar 4)) [7, 8] (sgTup 2 (sgCons (sgName 7) (sgCons (sgName 8) sgNil))) t_l_wary_1 t_l_wary_2)) (ssSeq (ssSet 6 (sxLc fzL (siSeq (sxVar 4)) [7, 8] (sgTup 2 (sgCons (sgName 7) (sgCons (sgName 8) sgNil))) t_l_wary_3 t_l_wary_2)) (ssRet (sxN vTup (saCons (sx2 vNe (sxVar 5) (sxN vLst saNil)) (saCons (sx2 vNe (sxVar 6) (sxN vLst saNil)) saNil)))))))
def p_l_wary : List PV → RR PV := pureF (bodyF 9 t_l_wary)
def m_l_wary : Fs := liftP p_l_wary
def t_is_deed : Ss := (ssRet (sxAnd (sx1 (vIsInst "tuple") (sxVar 0)) (sxAnd (sxChain vLe vLe (sxC (.int 1)) (sxN vLen (saCons (sxVar 0) saNil)) (sxC (.int 5))) (sx2 vIsN (sxCall 1 m_wrong_step (saCons (sxVar 0) saNil)) (sxC .non)))))
def p_is_deed : List PV → RR PV := pureF (bodyF 1 t_is_deed)
def m_is_deed : Fs := liftP p_is_deed
def t_can_be_firm : Ss := (ssRet (sxAnd (sx2 vLt (sxN vLen (saCons (sx2 vItem (sxVar 0) (sxVar 1)) saNil)) (sxC (.int 5))) (sx2 vNotIn (sxN vTup (saCons (sxC (.str "mark")) (saCons (sx2 vItem (sx2 vItem (sx2 vItem (sxVar 0) (sxVar 1)) (sxVar 2)) (sxC (.int 1))) saNil))) (sx2 vItem (sxVar 0) (sxVar 1)))))
def p_can_be_firm : List PV → RR PV := pureF (bodyF 3 t_can_be_firm)
def m_can_be_firm : Fs := liftP p_can_be_firm
def t_is_spot : Ss := (ssSeq (ssIf (stOr (stNot (stB (sx1 (vIsInst "tuple") (sxVar 1)))) (stOr (stB (sx2 vNe (sxN vLen (saCons (sxVar 1) saNil)) (sxC (.int 2)))) (stNot (stB (sxCall 3 m_is_whole (saCons (sx2 vItem (sxVar 1) (sxC (.int 0))) (saCons (sxC (.int 0)) (saCons (sx2 vSub (sxN vLen (saCons (sxVar 0) saNil)) (sxC (.int 1))) saNil)))))))) (ssRet (sxC (.bl false))) ssNil) (ssSeq (ssAsg (sxVar 1) (sgTup 2 (sgCons (sgName 2) (sgCons (sgName 3) sgNil)))) (ssSeq (ssIf (stOr (stNot (stB (sxCall 3 m_is_whole (saCons (sxVar 3) (saCons (sxC (.int 0)) (saCons (sx2 vSub (sxN vLen (saCons (sx2 vItem (sxVar 0) (sxVar 2)) saNil)) (sxC (.int 1))) saNil)))))) (stNot (stB (sxCall 3 m_is_look (saCons (sxVar 0) (saCons (sxVar 2) (saCons (sxVar 3) saNil))))))) (ssRet (sxC (.bl false))) ssNil) (ssRet (sxCall 3 m_can_be_firm (saCons (sxVar 0) (saCons (sxVar 2) (saCons (sxVar 3) saNil))))))))
def p_is_spot : List PV → RR PV := pureF (bodyF 4 t_is_spot)
def m_is_spot : Fs := liftP p_is_spot
def t_do_fit_in_1 : St' := (stB (sx2 vEq (sxVar 5) (sxVar 3)))
def t_do_fit_in_2 : Sx := (sxC (.int 1))
def t_do_fit_in_3 : Sx := (sx2 vAdd (sxN vLen (saCons (sxLc fzL (siSeq (sxVar 1)) [5, 6] (sgTup 2 (sgCons (sgName 5) (sgCons (sgName 6) sgNil))) t_do_fit_in_1 t_do_fit_in_2) saNil)) (sxN vLen (saCons (sxVar 4) saNil)))
def t_do_fit_in : Ss := (ssSeq (ssSet 2 (sxLc fzL (siEnum (sxVar 0)) [3, 4] (sgTup 2 (sgCons (sgName 3) (sgCons (sgName 4) sgNil))) stYes t_do_fit_in_3)) (ssRet (sx2 vLe (sxN vMaxL (saCons (sxVar 2) saNil)) (sxC (.int 5)))))
def p_do_fit_in : List PV → RR PV := pureF (bodyF 7 t_do_fit_in)
def m_do_fit_in : Fs := liftP p_do_fit_in
def t_is_firm_1 : Sx := (sxCall 2 m_is_spot (saCons (sxVar 0) (saCons (sxVar 2) saNil)))
def t_is_firm_2 : Sx := (sx2 vLt (sxVar 3) (sxVar 4))
def t_is_firm : Ss := (ssSeq (ssIf (stOr (stNot (stB (sx1 (vIsInst "tuple") (sxVar 1)))) (stNot (stB (sxN vAll (saCons (sxLc fzL (siSeq (sxVar 1)) [2] (sgName 2) stYes t_is_firm_1) saNil))))) (ssRet (sxC (.bl false))) ssNil) (ssRet (sxAnd (sxN vAll (saCons (sxLc fzL (siZip (sxVar 1) (sxSl vSl (sxVar 1) (soPart (sxC (.int 1))) soNo)) [3, 4] (sgTup 2 (sgCons (sgName 3) (sgCons (sgName 4) sgNil))) stYes t_is_firm_2) saNil)) (sxCall 2 m_do_fit_in (saCons (sxVar 0) (saCons (sxVar 1) saNil))))))
def p_is_firm : List PV → RR PV := pureF (bodyF 5 t_is_firm)
def m_is_firm : Fs := liftP p_is_firm
def t_firmed_in_1 : Ss := (ssEnd [6, 7] (ssSeq (ssExpr (sxMt isL vAppend (sxVar 5) (saCons (sxVar 7) saNil))) (ssIf (stB (sx2 vIn (sxN vTup (saCons (sxVar 3) (saCons (sxVar 6) saNil))) (sxVar 1))) (ssExpr (sxMt isL vAppend (sxVar 5) (saCons (sxN vTup (saCons (sxC (.str "mark")) (saCons (sx2 vItem (sxVar 7) (sxC (.int 1))) saNil))) saNil))) ssNil)))
def t_firmed_in_2 : Ss := (ssLoc [3, 4, 5, 6, 7] (ssSeq (ssSet 5 (sxN vNew saNil)) (ssSeq (ssWp [6, 7] (ssFor (siEnum (sxVar 4)) (sgTup 2 (sgCons (sgName 6) (sgCons (sgName 7) sgNil))) t_firmed_in_1)) (ssFrz 5 (ssExpr (sxMt isL vAppend (sxVar 2) (saCons (sxN vTuple (saCons (sxVar 5) saNil)) saNil)))))))
def t_firmed_in : Ss := (ssSeq (ssSet 2 (sxN vNew saNil)) (ssSeq (ssWp [3, 4, 5, 6, 7] (ssFor (siEnum (sxVar 0)) (sgTup 2 (sgCons (sgName 3) (sgCons (sgName 4) sgNil))) t_firmed_in_2)) (ssFrz 2 (ssRet (sxN vTuple (saCons (sxVar 2) saNil))))))
def p_firmed_in : List PV → RR PV := pureF (bodyF 8 t_firmed_in)
def m_firmed_in : Fs := liftP p_firmed_in
def t_firmed : Ss := (ssSeq (ssExpr (sxCall 1 m_need_lot (saCons (sxVar 0) saNil))) (ssSeq (ssIf (stNot (stB (sxCall 2 m_is_firm (saCons (sxVar 0) (saCons (sxVar 1) saNil))))) ssNo ssNil) (ssRet (sxCall 2 m_firmed_in (saCons (sxVar 0) (saCons (sxVar 1) saNil))))))
def p_firmed : List PV → RR PV := pureF (bodyF 2 t_firmed)
def m_firmed : Fs := liftP p_firmed
def t_l_is_whole : Ss := (ssRet (sxAnd (sx1 (vIsInst "int") (sxVar 0)) (sxAnd (sxNot (sx1 (vIsInst "bool") (sxVar 0))) (sxChain vLe vLt (sxC (.int 0)) (sxVar 0) (sxVar 1)))))
def p_l_is_whole : List PV → RR PV := pureF (bodyF 2 t_l_is_whole)
def m_l_is_whole : Fs := liftP p_l_is_whole
def t_is_sight : Ss := (ssSeq (ssIf (stOr (stNot (stB (sx1 (vIsInst "tuple") (sxVar 2)))) (stB (sx2 vNe (sxN vLen (saCons (sxVar 2) saNil)) (sxC (.int 3))))) (ssRet (sxC (.bl false))) ssNil) (ssSeq (ssIf (stOr (stNot (stB (sxCall 3 m_is_whole (saCons (sx2 vItem (sxVar 2) (sxC (.int 0))) (saCons (sxC (.int 0)) (saCons (sx2 vSub (sxN vLen (saCons (sxVar 0) saNil)) (sxC (.int 1))) saNil)))))) (stNot (stB (sxCall 3 m_is_whole (saCons (sx2 vItem (sxVar 2) (sxC (.int 1))) (saCons (sxC (.int 0)) (saCons (sx2 vSub (sxN vLen (saCons (sx2 vItem (sxVar 0) (sx2 vItem (sxVar 2) (sxC (.int 0)))) saNil)) (sxC (.int 1))) saNil))))))) (ssRet (sxC (.bl false))) ssNil) (ssSeq (ssIf (stB (sx2 vNe (sxN vTup (saCons (sx2 vItem (sxVar 2) (sxC (.int 0))) (saCons (sx2 vItem (sxVar 2) (sxC (.int 1))) saNil))) (sxVar 1))) (ssRet (sxC (.bl false))) ssNil) (ssRet (sxOr (sx2 vIsN (sx2 vItem (sxVar 2) (sxC (.int 2))) (sxC .non)) (sxAnd (sxCall 3 m_is_whole (saCons (sx2 vItem (sxVar 2) (sxC (.int 2))) (saCons (sxC (.int 0)) (saCons (sx2 vSub (sxN vLen (saCons (sxVar 0) saNil)) (sxC (.int 1))) saNil)))) (sx2 vNe (sx2 vItem (sxVar 2) (sxC (.int 2))) (sx2 vItem (sxVar 2) (sxC (.int 0))))))))))
def p_is_sight : List PV → RR PV := pureF (bodyF 3 t_is_sight)
def m_is_sight : Fs := liftP p_is_sight
def t__wall_1 : St' := (stB (sxC (.bl true)))
def t__wall_2 : Ss := (ssEnd [] ssNil)
def t__wall : Ss := (ssWp [] (ssWhile 1000000 t__wall_1 t__wall_2))
def p__wall : List PV → RR PV := pureF (bodyF 1 t__wall)
def m__wall : Fs := liftP p__wall
def t_is_name_1 : Sx := (sx2 vIn (sxVar 1) (sxC (.str "abcdefghijklmnopqrstuvwxyz")))
def t_is_name : Ss := (ssSeq (ssIf (stOr (stNot (stB (sx1 (vIsInst "str") (sxVar 0)))) (stNot (stB (sxChain vLe vLe (sxC (.int 1)) (sxN vLen (saCons (sxVar 0) saNil)) (sxC (.int 6)))))) (ssRet (sxC (.bl false))) ssNil) (ssRet (sxN vAll (saCons (sxLc fzL (siSeq (sxVar 0)) [1] (sgName 1) stYes t_is_name_1) saNil))))
def p_is_name : List PV → RR PV := pureF (bodyF 2 t_is_name)
def m_is_name : Fs := liftP p_is_name
def t_need_alone : Ss := (ssIf (stB (sx2 vGt (sxN vLen (saCons (sxVar 0) saNil)) (sxC (.int 1)))) ssNo ssNil)
def p_need_alone : List PV → RR PV := pureF (bodyF 1 t_need_alone)
def m_need_alone : Fs := liftP p_need_alone
end
end MS

end

section
/-! The words. -/
namespace MS
open PySem PySem.Spec PyProof.Rows L2 MX
def w_early : W := ⟨"early", by decide +kernel⟩
def w_guarded : W := ⟨"guarded", by decide +kernel⟩
def w_late : W := ⟨"late", by decide +kernel⟩
def w_look : W := ⟨"look", by decide +kernel⟩
def w_mark : W := ⟨"mark", by decide +kernel⟩
def w_missed : W := ⟨"missed", by decide +kernel⟩
def w_over : W := ⟨"over", by decide +kernel⟩
def w_shown : W := ⟨"shown", by decide +kernel⟩
end MS

end

section
/-! Defs typed by hand: is_thing, the clocks. -/
namespace MS
open PySem PySem.Spec PyProof.Rows L2 MX
def n_is_thing (a0 : W) : RR Bool := bl? (p_is_thing [eS a0])
theorem x_is_thing (a0 : W) : RV (p_is_thing [eS a0]) (n_is_thing a0) eB := rv_bl _
/-! the clocks: a list of lists -/
def clkStep (x : Int × Int) (st : List (List Int)) : RR (List (List Int)) := if 0 ≤ x.2 then match st[x.2.toNat]? with
  | some l => if l.length < sizeLine then .ok (st.set x.2.toNat (l ++ [x.1])) else .stuck
  | none => .stuck else .stuck
def n_l_clocks (a0 : List (List (W × W))) (a1 : List Int) : RR (List (List Int)) := if a0.length ≤ sizeLine then foldR clkStep (enumN 0 a1) (a0.map fun _ => []) else .stuck
def refsN (n : Nat) : PV := .lst ((List.range n).map .ref)
def Lk (st : List (List Int)) : Sto := st.map fun l => .lst (l.map eI)
def Ak (c k : PV) (st : List (List Int)) : Sl × Sto := ([some c, some k, some (refsN st.length), none, none, none], Lk st)
theorem clk_new {sp : Sl} : ∀ (l : List PV) (S : Sto), lcL sp (sgName 5) stYes t_l_clocks_1 l S = .ok ((List.range l.length).map fun i => PV.ref (S.length + i)) (S ++ List.replicate l.length (.lst []))
  | [], S => by simp [lcL]
  | d :: l, S => by
    have ih := clk_new (sp := sp) l (S ++ [.lst []])
    have e : t_l_clocks_1 (sp.set 5 (some d)) S = .ok (.ref S.length) (S ++ [.lst []]) := by
      unfold t_l_clocks_1 sxN
      rfl
    have e2 : ∀ a : PV, (sgName 5) a sp S = some (sp.set 5 (some a)) := fun a => rfl
    unfold lcL
    rw [e2]
    show (Out.pure (t_l_clocks_1 (sp.set 5 (some d)) S) fun y S2 => (lcL sp (sgName 5) stYes t_l_clocks_1 l S2).pure fun ys S3 => Out.ok (y :: ys) S3) = _
    rw [e]
    show (Out.pure (lcL sp (sgName 5) stYes t_l_clocks_1 l (S ++ [.lst []])) fun ys S3 => Out.ok (PV.ref S.length :: ys) S3) = _
    rw [ih]
    show Out.ok _ _ = _
    congr 1
    · rw [List.length_cons, List.range_succ_eq_map, List.map_cons, List.map_map]
      congr 1
      exact List.map_congr_left fun i _ => by simp only [Function.comp, List.length_append, List.length_singleton]; congr 1; omega
    · rw [List.append_assoc, List.length_cons, List.replicate_succ]; rfl
theorem clk_body {c k : PV} {x : Int × Int} {st st' : List (List Int)} (h : clkStep x st = .ok st') :
    t_l_clocks_2 [some c, some k, some (refsN st.length), some (eI x.1), some (eI x.2), none] (Lk st) = .nx (Ak c k st').1 (Ak c k st').2 := by
  unfold clkStep at h
  by_cases h0 : 0 ≤ x.2
  · rw [if_pos h0] at h
    cases hl : st[x.2.toNat]? with
    | none => rw [hl] at h; cases h
    | some l =>
      rw [hl] at h
      simp only at h
      by_cases hz : l.length < sizeLine
      · rw [if_pos hz] at h
        cases h
        have hi := (List.getElem?_eq_some_iff.mp hl).1
        have hL : (Lk st)[x.2.toNat]? = some (.lst (l.map eI)) := by unfold Lk; rw [List.getElem?_map, hl]; rfl
        have e1 : vItem (refsN st.length) (eI x.2) (Lk st) = some (.ref x.2.toNat, Lk st) := by
          unfold refsN eI vItem
          simp only [seqOf]
          have : atI ((List.range st.length).map PV.ref) x.2 = some (.ref x.2.toNat) := by
            unfold atI ixN
            rw [if_pos h0, if_pos (by simp only [List.length_map, List.length_range]; omega)]
            simp only [Option.bind_some]
            rw [List.getElem?_map, List.getElem?_range hi]; rfl
          rw [this]; rfl
        have e2 : vAppend (.ref x.2.toNat) [eI x.1] (Lk st) = some (.non, Lk (st.set x.2.toNat (l ++ [x.1]))) := by
          unfold vAppend
          simp only [hL]
          rw [if_pos (by simpa using hz)]
          unfold Lk
          rw [List.map_set]
          simp only [List.map_append, List.map_cons, List.map_nil]
        have e3 : isL (Lk st) (.ref x.2.toNat) = true := by simp [isL, MX.listOf, hL]
        have e4 : sxMt isL vAppend (sx2 vItem (sxVar 2) (sxVar 4)) (saCons (sxVar 3) saNil) [some c, some k, some (refsN st.length), some (eI x.1), some (eI x.2), none] (Lk st) = .ok .non (Lk (st.set x.2.toNat (l ++ [x.1]))) := by
          have e5 : sx2 vItem (sxVar 2) (sxVar 4) [some c, some k, some (refsN st.length), some (eI x.1), some (eI x.2), none] (Lk st) = .ok (.ref x.2.toNat) (Lk st) := by
            show Out.of (vItem (refsN st.length) (eI x.2) (Lk st)) = _
            rw [e1]
          unfold sxMt
          rw [e5]
          show (if isL (Lk st) (.ref x.2.toNat) = true then _ else _) = _
          rw [if_pos e3]
          show Out.of (vAppend (.ref x.2.toNat) [eI x.1] (Lk st)) = _
          rw [e2]
        unfold t_l_clocks_2 ssEnd ssExpr
        rw [e4]
        show SOut.nx _ _ = _
        unfold Ak
        simp only [List.length_set]
        rfl
      · rw [if_neg hz] at h; cases h
  · rw [if_neg h0] at h; cases h
theorem clk_noexc : ∀ (l : List (Int × Int)) (st : List (List Int)) (x : EX), foldR clkStep l st ≠ .exc x
  | [], st, x, h => by cases h
  | a :: l, st, x, h => by
    unfold foldR at h
    cases e : clkStep a st with
    | ok st' => rw [e] at h; exact clk_noexc l st' x h
    | stuck => rw [e] at h; cases h
    | exc y =>
      unfold clkStep at e
      split at e
      · split at e
        · split at e <;> cases e
        · cases e
      · cases e
theorem thaw_refs {st : List (List Int)} : ∀ (n : Nat), n ≤ st.length → mapO (thawN (Lk st) 0 19) ((List.range' (st.length - n) n).map PV.ref) = some (((st.drop (st.length - n)).map fun l => eL eI l))
  | 0, _ => by simp [mapO]
  | n + 1, h => by
    have hi : st.length - (n + 1) < st.length := by omega
    rw [List.range'_succ, List.map_cons, show st.length - (n + 1) + 1 = st.length - n by omega, List.drop_eq_getElem_cons hi, List.map_cons, show st.length - (n + 1) + 1 = st.length - n by omega]
    have hL : (Lk st)[st.length - (n + 1)]? = some (.lst ((st[st.length - (n + 1)]).map eI)) := by unfold Lk; rw [List.getElem?_map, List.getElem?_eq_getElem hi]; rfl
    have q : thawN (Lk st) 0 19 (.ref (st.length - (n + 1))) = some (eL eI st[st.length - (n + 1)]) := by
      have hm : ∀ l : List Int, mapO (thawN (Lk st) 0 18) (l.map eI) = some (l.map eI) := by
        intro l
        induction l with
        | nil => rfl
        | cons a l ih =>
          rw [List.map_cons]
          unfold mapO
          rw [show thawN (Lk st) 0 18 (eI a) = some (eI a) from rfl, ih]; rfl
      unfold thawN
      simp only [Nat.zero_le, if_true, hL]
      show Option.map PV.lst (mapO (thawN (Lk st) 0 18) ((st[st.length - (n + 1)]).map eI)) = _
      rw [hm]; rfl
    unfold mapO
    rw [q, thaw_refs n (by omega)]; rfl
theorem x_l_clocks (a0 : List (List (W × W))) (a1 : List Int) : RV (p_l_clocks [(eV (eV (eT2 eS eS))) a0, (eV eI) a1]) (n_l_clocks a0 a1) (eL (eL eI)) := by
  unfold n_l_clocks
  by_cases hz : a0.length ≤ sizeLine
  · rw [if_pos hz]
    cases hf : foldR clkStep (enumN 0 a1) (a0.map fun _ => []) with
    | stuck => trivial
    | exc x => exact absurd hf (clk_noexc _ _ x)
    | ok st =>
      have G : GV t_l_clocks (startP 6 [(eV (eV (eT2 eS eS))) a0, (eV eI) a1]) [] (.ok st) (fun st out => out = .rt (refsN st.length) (Lk st)) := by
        have h1 : sxLc fzL (siSeq (sxVar 0)) [5] (sgName 5) stYes t_l_clocks_1 (startP 6 [(eV (eV (eT2 eS eS))) a0, (eV eI) a1]) [] = .ok (refsN a0.length) (Lk (a0.map fun _ => [])) := by
          unfold sxLc
          rw [show siSeq (sxVar 0) (startP 6 [(eV (eV (eT2 eS eS))) a0, (eV eI) a1]) [] = .ok (.items (a0.map (eV (eT2 eS eS)))) [] from rfl]
          show (lcL _ (sgName 5) stYes t_l_clocks_1 (a0.map (eV (eT2 eS eS))) []).pure _ = _
          rw [clk_new]
          show Out.of (fzL _ _) = _
          unfold fzL
          rw [if_pos (by simpa using hz)]
          show Out.ok _ _ = _
          congr 1
          · unfold refsN
            simp
          · unfold Lk
            simp [List.map_const']
        have h2 := gv_fort (ea := eT2 eI eI) (A := Ak ((eV (eV (eT2 eS eS))) a0) ((eV eI) a1)) (s0 := a0.map fun _ => []) (step := clkStep) (xs := enumN 0 a1) (f := fun st => RR.ok st) (J := fun st out => out = .rt (refsN st.length) (Lk st)) (tg := sgTup 2 (sgCons (sgName 3) (sgCons (sgName 4) sgNil))) (b := t_l_clocks_2) (ti := siEnum (sxVar 1)) (r := ssRet (sxVar 2))
          (sp := (Ak ((eV (eV (eT2 eS eS))) a0) ((eV eI) a1) (a0.map fun _ => [])).1) (L := Lk (a0.map fun _ => [])) (iv_enumVt (ev_var (ea := eV eI) (a := a1) rfl)) rfl
          (fun x s => ⟨_, rfl, by
            cases hs : clkStep x s with
            | stuck => trivial
            | exc y => exact absurd (show foldR clkStep [x] s = .exc y by unfold foldR; rw [hs]) (clk_noexc _ _ y)
            | ok s' => exact .inl (clk_body hs)⟩) (fun s => rfl)
        rw [hf] at h2
        refine GV.congr h2 ?_
        rw [show (Ak ((eV (eV (eT2 eS eS))) a0) ((eV eI) a1) (a0.map fun _ => [])).1 = [some ((eV (eV (eT2 eS eS))) a0), some ((eV eI) a1), some (refsN a0.length), none, none, none] by simp [Ak]]
        unfold t_l_clocks ssSeq ssSet
        rw [h1]
        rfl
      have e1 : t_l_clocks (startP 6 [(eV (eV (eT2 eS eS))) a0, (eV eI) a1]) [] = .rt (refsN st.length) (Lk st) := G
      show p_l_clocks [(eV (eV (eT2 eS eS))) a0, (eV eI) a1] = .ok (eL (eL eI) st)
      unfold p_l_clocks pureF bodyF
      rw [if_pos (by simp only [belows, RF.b, Bool.and_self]), e1]
      simp only
      have hth : thaw (Lk st) 0 20 (refsN st.length) = some (eL (eL eI) st) := by
        unfold thaw
        split
        · rename_i hb
          cases st with
          | nil => rfl
          | cons l st =>
            exfalso
            simp [refsN, below, List.range_succ_eq_map, belows] at hb
        · show Option.map PV.lst (mapO (thawN (Lk st) 0 19) ((List.range st.length).map PV.ref)) = _
          have := thaw_refs (st := st) st.length (Nat.le_refl _)
          rw [show st.length - st.length = 0 by omega, ← List.range_eq_range', List.drop_zero] at this
          rw [this]; rfl
      rw [hth]
  · rw [if_neg hz]; trivial
end MS

end

section
/-! The shared defs over data of Lean. -/
namespace MS
open PySem PySem.Spec PyProof.Rows L2 MX
def n_is_step (a0 : (W × W)) : RR Bool := RR.san (if ((!true) || ((!eqB (2 : Int) (2 : Int)) || (!true))) = true then .ok false else (RR.bnd (.ok (inB a0.1 [w_look, w_mark])) fun v1 => if v1 = true then (n_is_thing a0.2) else .ok false))
theorem x_is_step (a0 : (W × W)) : RV (p_is_step [(eT2 eS eS) a0]) (n_is_step a0) eB := rv_fn (t := t_is_step) (by simp only [belows, RF.b, Bool.and_self]) (gv_ift (tv_ort (tv_nott (tv_val (ev_1t (g := fun _ => true) (o_inst (b := true) (e := (eT2 eS eS)) fun _ _ => ty_tup (by decide) _) (ev_var (ea := (eT2 eS eS)) (a := a0) rfl)))) (tv_ort (tv_val (ev_2t (g := fun (x : Int) (y : Int) => (!eqB x y)) (o_ne (e := eI)) (ev_n1t (g := fun (x : (W × W)) => (2 : Int)) (fun _ _ => rfl) (ev_var (ea := (eT2 eS eS)) (a := a0) rfl)) (ev_c (ea := eI) (a := 2) rfl))) (tv_nott (tv_val (ev_1t (g := fun _ => true) (o_inst (b := true) (e := eS) fun _ _ => ty_str (by decide) _) (ev_att (ea := (eT2 eS eS)) (ec := eS) (g := fun p => p.1) (ev_var (ea := (eT2 eS eS)) (a := a0) rfl) fun _ _ => rfl)))))) (gv_rett (ev_c (ea := eB) (a := false) rfl) jf_rt) (gv_skip (gv_last (gv_retp (ev_and (ev_2t (g := fun (x : W) (y : (List W)) => (inB x y)) (o_inV (e := eS)) (ev_att (ea := (eT2 eS eS)) (ec := eS) (g := fun p => p.1) (ev_var (ea := (eT2 eS eS)) (a := a0) rfl) fun _ _ => rfl) (ev_tvk (av_const (ev_c (ea := eS) (a := w_look) rfl) (av_const (ev_c (ea := eS) (a := w_mark) rfl) (av_nilm (e := eS)))) rfl)) (ev_call1t x_is_thing (ev_att (ea := (eT2 eS eS)) (ec := eS) (g := fun p => p.2) (ev_var (ea := (eT2 eS eS)) (a := a0) rfl) fun _ _ => rfl)))))))
def n_can_follow (a0 : (List (W × W))) (a1 : (W × W)) : RR Bool := RR.san (RR.bnd (RR.bnd (RR.bnd (n_is_step a1) fun v1 => .ok (!v1)) fun v2 => if v2 = true then .ok true else (.ok (inB a1 a0))) fun v3 => if v3 = true then .ok false else .ok ((eqB a1.1 w_mark) || (!inB (w_mark, a1.2) a0)))
theorem x_can_follow (a0 : (List (W × W))) (a1 : (W × W)) : RV (p_can_follow [(eV (eT2 eS eS)) a0, (eT2 eS eS) a1]) (n_can_follow a0 a1) eB := rv_fn (t := t_can_follow) (by simp only [belows, RF.b, Bool.and_self]) (gv_if (tv_or (tv_not (tv_val (ev_call1t x_is_step (ev_var (ea := (eT2 eS eS)) (a := a1) rfl)))) (tv_val (ev_2t (g := fun (x : (W × W)) (y : (List (W × W))) => (inB x y)) (o_inV (e := (eT2 eS eS))) (ev_var (ea := (eT2 eS eS)) (a := a1) rfl) (ev_var (ea := (eV (eT2 eS eS))) (a := a0) rfl)))) (gv_rett (ev_c (ea := eB) (a := false) rfl) jf_rt) (gv_skip (gv_last (gv_rett (ev_ort (ev_2t (g := fun (x : W) (y : W) => (eqB x y)) (o_eq (e := eS)) (ev_att (ea := (eT2 eS eS)) (ec := eS) (g := fun p => p.1) (ev_var (ea := (eT2 eS eS)) (a := a1) rfl) fun _ _ => rfl) (ev_c (ea := eS) (a := w_mark) rfl)) (ev_2t (g := fun (x : (W × W)) (y : (List (W × W))) => (!inB x y)) (o_niV (e := (eT2 eS eS))) (ev_t2t (ev_c (ea := eS) (a := w_mark) rfl) (ev_att (ea := (eT2 eS eS)) (ec := eS) (g := fun p => p.2) (ev_var (ea := (eT2 eS eS)) (a := a1) rfl) fun _ _ => rfl)) (ev_var (ea := (eV (eT2 eS eS))) (a := a0) rfl))) jf_rt))))
def n_wrong_step (a0 : (List (W × W))) : RR (Option Int) := RR.san (RR.bnd (forR (fun v1 v2 => (RR.bnd (RR.bnd (n_can_follow (cutN a0 none (some v1.1)) v1.2) fun v3 => .ok (!v3)) fun v4 => if v4 = true then .ok (.rt (some v1.1)) else .ok (.nx ()))) (enumN 0 a0) ()) (forK (fun v5 => .ok (none : (Option Int))) (fun v => v)))
theorem x_wrong_step (a0 : (List (W × W))) : RV (p_wrong_step [(eV (eT2 eS eS)) a0]) (n_wrong_step a0) (eO eI) := rv_fn (t := t_wrong_step) (by simp only [belows, RF.b, Bool.and_self]) (gv_wpS (gv_forBt (ea := (eT2 eI (eT2 eS eS))) (A := (fun v2 : Unit => ([some ((eV (eT2 eS eS)) a0), none, none], []))) (s0 := ()) (ρ := (Option Int)) (er := (eO eI)) (iv_enumVt (ev_var (ea := (eV (eT2 eS eS))) (a := a0) rfl)) rfl (fun v1 v2 => ⟨_, rfl, gv_endB (gv_last (gv_if (tv_not (tv_val (ev_call2t x_can_follow (ev_slt (sl_V (e := (eT2 eS eS))) (ev_var (ea := (eV (eT2 eS eS))) (a := a0) rfl) ov_no (ov_partt (ev_var (ea := eI) (a := v1.1) rfl))) (ev_var (ea := (eT2 eS eS)) (a := v1.2) rfl)))) (gv_rett (ev_somet (e := eI) (ev_var (ea := eI) (a := v1.1) rfl)) ⟨_, rfl⟩) (gv_skip (gv_nil ⟨_, _, rfl, rfl⟩))))⟩) (fun v5 => (gv_last (gv_rett (ev_none (e := eI) (ev_c (ea := eN) (a := ()) rfl)) jf_rt))) (g := (fun v => v)) (fun _ _ => jf_rt)))
def n_wrong_place (a0 : (List (List (W × W)))) : RR (Option (List Int)) := RR.san (if ((!true) || (!((decide ((1 : Int) ≤ (a0.length : Int))) && (decide ((a0.length : Int) ≤ (5 : Int)))))) = true then .ok (some ([] : (List Int))) else (RR.bnd (forR (fun v1 v2 => (if ((!true) || (!((decide ((1 : Int) ≤ (v1.2.length : Int))) && (decide ((v1.2.length : Int) ≤ (5 : Int)))))) = true then .ok (.rt (some [v1.1])) else (RR.bnd (n_wrong_step v1.2) fun v3 => (if (Option.isSome v3) = true then (RR.bnd (RR.bnd (RR.bnd (RR.bnd (.ok v1.1) fun v10 => RR.bnd (RR.bnd (unO v3) fun v8 => RR.bnd (.ok []) fun v9 => .ok (v8 :: v9)) fun v11 => .ok (v10 :: v11)) fitR) fun a => .ok (some a)) fun v12 => .ok (.rt v12)) else .ok (.nx ()))))) (enumN 0 a0) ()) (forK (fun v13 => .ok (none : (Option (List Int)))) (fun v => v))))
theorem x_wrong_place (a0 : (List (List (W × W)))) : RV (p_wrong_place [(eV (eV (eT2 eS eS))) a0]) (n_wrong_place a0) (eO (eV eI)) := rv_fn (t := t_wrong_place) (by simp only [belows, RF.b, Bool.and_self]) (gv_ift (tv_ort (tv_nott (tv_val (ev_1t (g := fun _ => true) (o_inst (b := true) (e := (eV (eV (eT2 eS eS)))) fun _ _ => ty_tup (by decide) _) (ev_var (ea := (eV (eV (eT2 eS eS)))) (a := a0) rfl)))) (tv_nott (tv_val (ev_chaint (f := fun (x : Int) (y : Int) => (decide (x ≤ y))) (g := fun (x : Int) (y : Int) => (decide (x ≤ y))) o_le o_le (ev_c (ea := eI) (a := 1) rfl) (ev_n1t (g := fun (x : (List (List (W × W)))) => (x.length : Int)) (o_lenV (e := (eV (eT2 eS eS)))) (ev_var (ea := (eV (eV (eT2 eS eS)))) (a := a0) rfl)) (ev_c (ea := eI) (a := 5) rfl))))) (gv_rett (ev_somet (e := (eV eI)) (ev_tv0 (e := eI))) jf_rt) (gv_skip (gv_wpS (gv_forBt (ea := (eT2 eI (eV (eT2 eS eS)))) (A := (fun v2 : Unit => ([some ((eV (eV (eT2 eS eS))) a0), none, none, none], []))) (s0 := ()) (ρ := (Option (List Int))) (er := (eO (eV eI))) (iv_enumVt (ev_var (ea := (eV (eV (eT2 eS eS)))) (a := a0) rfl)) rfl (fun v1 v2 => ⟨_, rfl, gv_endB (gv_ift (tv_ort (tv_nott (tv_val (ev_1t (g := fun _ => true) (o_inst (b := true) (e := (eV (eT2 eS eS))) fun _ _ => ty_tup (by decide) _) (ev_var (ea := (eV (eT2 eS eS))) (a := v1.2) rfl)))) (tv_nott (tv_val (ev_chaint (f := fun (x : Int) (y : Int) => (decide (x ≤ y))) (g := fun (x : Int) (y : Int) => (decide (x ≤ y))) o_le o_le (ev_c (ea := eI) (a := 1) rfl) (ev_n1t (g := fun (x : (List (W × W))) => (x.length : Int)) (o_lenV (e := (eT2 eS eS))) (ev_var (ea := (eV (eT2 eS eS))) (a := v1.2) rfl)) (ev_c (ea := eI) (a := 5) rfl))))) (gv_rett (ev_somet (e := (eV eI)) (ev_tvk (av_const (ev_var (ea := eI) (a := v1.1) rfl) (av_nilm (e := eI))) rfl)) ⟨_, rfl⟩) (gv_skip (gv_set (ev_call1t x_wrong_step (ev_var (ea := (eV (eT2 eS eS))) (a := v1.2) rfl)) (fun v3 => (gv_last (gv_ift (tv_val (ev_2t (g := fun (x : (Option Int)) (y : Unit) => (Option.isSome x)) (o_notN (e := eI)) (ev_var (ea := (eO eI)) (a := v3) rfl) (ev_c (ea := eN) (a := ()) rfl))) (gv_ret (g := Rz.rt) (ev_some (e := (eV eI)) (ev_tv (av_consm (ev_var (ea := eI) (a := v1.1) rfl) (av_consm (ev_unt (ev_var (ea := (eO eI)) (a := v3) rfl)) (av_nilm (e := eI)))))) (fun _ => ⟨_, rfl⟩)) (gv_skip (gv_nil ⟨_, _, rfl, rfl⟩))))))))⟩) (fun v13 => (gv_last (gv_rett (ev_none (e := (eV eI)) (ev_c (ea := eN) (a := ()) rfl)) jf_rt))) (g := (fun v => v)) (fun _ _ => jf_rt)))))
def n_need_lot (a0 : (List (List (W × W)))) : RR (List (List (W × W))) := RR.san (RR.bnd (n_wrong_place a0) fun v1 => (if (Option.isSome v1) = true then .stuck else .ok a0))
theorem x_need_lot (a0 : (List (List (W × W)))) : RV (p_need_lot [(eV (eV (eT2 eS eS))) a0]) (n_need_lot a0) (eV (eV (eT2 eS eS))) := rv_fn (t := t_need_lot) (by simp only [belows, RF.b, Bool.and_self]) (gv_set (ev_call1t x_wrong_place (ev_var (ea := (eV (eV (eT2 eS eS)))) (a := a0) rfl)) (fun v1 => (gv_ift (tv_val (ev_2t (g := fun (x : (Option (List Int))) (y : Unit) => (Option.isSome x)) (o_notN (e := (eV eI))) (ev_var (ea := (eO (eV eI))) (a := v1) rfl) (ev_c (ea := eN) (a := ()) rfl))) trivial (gv_skip (gv_last (gv_rett (ev_var (ea := (eV (eV (eT2 eS eS)))) (a := a0) rfl) jf_rt))))))
def n_is_whole (a0 : Int) (a1 : Int) (a2 : Int) : RR Bool := RR.san (.ok (true && ((!false) && ((decide (a1 ≤ a0)) && (decide (a0 ≤ a2))))))
theorem x_is_whole (a0 : Int) (a1 : Int) (a2 : Int) : RV (p_is_whole [eI a0, eI a1, eI a2]) (n_is_whole a0 a1 a2) eB := rv_fn (t := t_is_whole) (by simp only [belows, RF.b, Bool.and_self]) (gv_last (gv_rett (ev_andt (ev_1t (g := fun _ => true) (o_inst (b := true) (e := eI) fun _ _ => ty_int (by decide) _) (ev_var (ea := eI) (a := a0) rfl)) (ev_andt (ev_nott (ev_1t (g := fun _ => false) (o_inst (b := false) (e := eI) fun _ _ => ty_int (by decide) _) (ev_var (ea := eI) (a := a0) rfl))) (ev_chaint (f := fun (x : Int) (y : Int) => (decide (x ≤ y))) (g := fun (x : Int) (y : Int) => (decide (x ≤ y))) o_le o_le (ev_var (ea := eI) (a := a1) rfl) (ev_var (ea := eI) (a := a0) rfl) (ev_var (ea := eI) (a := a2) rfl)))) jf_rt))
def n_are_levels (a0 : (List (List (W × W)))) (a1 : (List W)) : RR Bool := RR.san (if ((!true) || (!eqB (a1.length : Int) (a0.length : Int))) = true then .ok false else (RR.bnd (fitR (List.map (fun v1 => (true && (inB v1 [w_late, w_early, w_guarded]))) a1)) fun v2 => RR.ok (List.all v2 id)))
theorem x_are_levels (a0 : (List (List (W × W)))) (a1 : (List W)) : RV (p_are_levels [(eV (eV (eT2 eS eS))) a0, (eV eS) a1]) (n_are_levels a0 a1) eB := rv_fn (t := t_are_levels) (by simp only [belows, RF.b, Bool.and_self]) (gv_ift (tv_ort (tv_nott (tv_val (ev_1t (g := fun _ => true) (o_inst (b := true) (e := (eV eS)) fun _ _ => ty_tup (by decide) _) (ev_var (ea := (eV eS)) (a := a1) rfl)))) (tv_val (ev_2t (g := fun (x : Int) (y : Int) => (!eqB x y)) (o_ne (e := eI)) (ev_n1t (g := fun (x : (List W)) => (x.length : Int)) (o_lenV (e := eS)) (ev_var (ea := (eV eS)) (a := a1) rfl)) (ev_n1t (g := fun (x : (List (List (W × W)))) => (x.length : Int)) (o_lenV (e := (eV (eT2 eS eS)))) (ev_var (ea := (eV (eV (eT2 eS eS)))) (a := a0) rfl))))) (gv_rett (ev_c (ea := eB) (a := false) rfl) jf_rt) (gv_skip (gv_last (gv_retp (ev_n1 (f := fun (x : (List Bool)) => RR.ok (List.all x id)) o_allL (ev_lcy (ea := eS) (ec := eB) (iv_V (ev_var (ea := (eV eS)) (a := a1) rfl)) (fun _ => rfl) (fun v1 => (ev_andt (ev_1t (g := fun _ => true) (o_inst (b := true) (e := eS) fun _ _ => ty_str (by decide) _) (ev_var (ea := eS) (a := v1) rfl)) (ev_2t (g := fun (x : W) (y : (List W)) => (inB x y)) (o_inV (e := eS)) (ev_var (ea := eS) (a := v1) rfl) (ev_c (ea := eV eS) (a := [w_late, w_early, w_guarded]) rfl))))))))))
def n_need_levels (a0 : (List (List (W × W)))) (a1 : (List W)) : RR (List W) := RR.san (RR.bnd (n_need_lot a0) fun v3 => (RR.bnd (RR.bnd (n_are_levels a0 a1) fun v1 => .ok (!v1)) fun v2 => if v2 = true then .stuck else .ok a1))
theorem x_need_levels (a0 : (List (List (W × W)))) (a1 : (List W)) : RV (p_need_levels [(eV (eV (eT2 eS eS))) a0, (eV eS) a1]) (n_need_levels a0 a1) (eV eS) := rv_fn (t := t_need_levels) (by simp only [belows, RF.b, Bool.and_self]) (gv_expr (ev_call1t x_need_lot (ev_var (ea := (eV (eV (eT2 eS eS)))) (a := a0) rfl)) (fun v3 => (gv_if (tv_not (tv_val (ev_call2t x_are_levels (ev_var (ea := (eV (eV (eT2 eS eS)))) (a := a0) rfl) (ev_var (ea := (eV eS)) (a := a1) rfl)))) trivial (gv_skip (gv_last (gv_rett (ev_var (ea := (eV eS)) (a := a1) rfl) jf_rt))))))
def n_wrong_spot (a0 : (List (List (W × W)))) (a1 : (List Int)) : RR (Option Int) := RR.san (RR.bnd (fitR (List.map (fun v2 => ((v2.length : Int) + (1 : Int))) a0)) fun v3 => (RR.bnd (forR (fun v4 v5 => (RR.bnd (RR.bnd (RR.bnd (n_is_whole v4.2 (0 : Int) ((a0.length : Int) - (1 : Int))) fun v6 => .ok (!v6)) fun v10 => if v10 = true then .ok true else (RR.bnd (RR.bnd (.ok v4.2) fun v7 => .ofO (atI v5 v7)) fun v8 => RR.bnd (.ok (0 : Int)) fun v9 => RR.ok (eqB v8 v9))) fun v15 => if v15 = true then .ok (.rt (some v4.1)) else (RR.bnd (.ok v4.2) fun v11 => RR.bnd (RR.ofO (atI v5 v11)) fun v12 => RR.bnd (.ok (1 : Int)) fun v13 => RR.bnd (RR.ofO (ixN v5.length v11)) fun v14 => .ok (.nx (List.set v5 v14 (v12 - v13)))))) (enumN 0 a1) v3) (forK (fun v16 => .ok (none : (Option Int))) (fun v => v))))
theorem x_wrong_spot (a0 : (List (List (W × W)))) (a1 : (List Int)) : RV (p_wrong_spot [(eV (eV (eT2 eS eS))) a0, (eV eI) a1]) (n_wrong_spot a0 a1) (eO eI) := rv_fn (t := t_wrong_spot) (by simp only [belows, RF.b, Bool.and_self]) (gv_newLc (ev_lcy (ea := (eV (eT2 eS eS))) (ec := eI) (iv_V (ev_var (ea := (eV (eV (eT2 eS eS)))) (a := a0) rfl)) (fun _ => rfl) (fun v2 => (ev_2t (g := fun (x : Int) (y : Int) => (x + y)) o_addI (ev_n1t (g := fun (x : (List (W × W))) => (x.length : Int)) (o_lenV (e := (eT2 eS eS))) (ev_var (ea := (eV (eT2 eS eS))) (a := v2) rfl)) (ev_c (ea := eI) (a := 1) rfl)))) (fun v3 => (gv_wpS (gv_forBt (ea := (eT2 eI eI)) (A := (fun v5 : (List Int) => ([some ((eV (eV (eT2 eS eS))) a0), some ((eV eI) a1), some (.ref 0), none, none, none], [.lst (List.map eI v5)]))) (s0 := v3) (ρ := (Option Int)) (er := (eO eI)) (iv_enumVt (ev_var (ea := (eV eI)) (a := a1) rfl)) rfl (fun v4 v5 => ⟨_, rfl, gv_endB (gv_if (tv_or (tv_not (tv_val (ev_call3t x_is_whole (ev_var (ea := eI) (a := v4.2) rfl) (ev_c (ea := eI) (a := 0) rfl) (ev_2t (g := fun (x : Int) (y : Int) => (x - y)) o_subI (ev_n1t (g := fun (x : (List (List (W × W)))) => (x.length : Int)) (o_lenV (e := (eV (eT2 eS eS)))) (ev_var (ea := (eV (eV (eT2 eS eS)))) (a := a0) rfl)) (ev_c (ea := eI) (a := 1) rfl))))) (tv_val (ev_2 (f := fun (x : Int) (y : Int) => RR.ok (eqB x y)) (o_eq (e := eI)) (ev_refItem (e := eI) rfl rfl (ev_var (ea := eI) (a := v4.2) rfl)) (ev_c (ea := eI) (a := 0) rfl)))) (gv_rett (ev_somet (e := eI) (ev_var (ea := eI) (a := v4.1) rfl)) ⟨_, rfl⟩) (gv_skip (gv_last (gv_augsub (xs := v5) (op := fun a b => a - b) o_subI rfl rfl (ev_var (ea := eI) (a := v4.2) rfl) (ev_c (ea := eI) (a := 1) rfl) (fun v12 v13 v14 => (gv_nil ⟨_, _, rfl, rfl⟩))))))⟩) (fun v16 => (gv_last (gv_rett (ev_none (e := eI) (ev_c (ea := eN) (a := ()) rfl)) jf_rt))) (g := (fun v => v)) (fun _ _ => jf_rt)))))
def n_need_run (a0 : (List (List (W × W)))) (a1 : (List Int)) : RR (List Int) := RR.san (RR.bnd (n_need_lot a0) fun v8 => (RR.bnd (RR.bnd (.ok (!true)) fun v5 => if v5 = true then .ok true else (RR.bnd (.ok (a1.length : Int)) fun v3 => RR.bnd (RR.bnd (fitR (List.map (fun v1 => ((v1.length : Int) + (1 : Int))) a0)) fun v2 => RR.ok (List.sum v2)) fun v4 => RR.ok (!eqB v3 v4))) fun v7 => if v7 = true then .stuck else (RR.bnd (n_wrong_spot a0 a1) fun v6 => (if (Option.isSome v6) = true then .stuck else .ok a1))))
theorem x_need_run (a0 : (List (List (W × W)))) (a1 : (List Int)) : RV (p_need_run [(eV (eV (eT2 eS eS))) a0, (eV eI) a1]) (n_need_run a0 a1) (eV eI) := rv_fn (t := t_need_run) (by simp only [belows, RF.b, Bool.and_self]) (gv_expr (ev_call1t x_need_lot (ev_var (ea := (eV (eV (eT2 eS eS)))) (a := a0) rfl)) (fun v8 => (gv_if (tv_or (tv_nott (tv_val (ev_1t (g := fun _ => true) (o_inst (b := true) (e := (eV eI)) fun _ _ => ty_tup (by decide) _) (ev_var (ea := (eV eI)) (a := a1) rfl)))) (tv_val (ev_2 (f := fun (x : Int) (y : Int) => RR.ok (!eqB x y)) (o_ne (e := eI)) (ev_n1t (g := fun (x : (List Int)) => (x.length : Int)) (o_lenV (e := eI)) (ev_var (ea := (eV eI)) (a := a1) rfl)) (ev_n1 (f := fun (x : (List Int)) => RR.ok (List.sum x)) o_sumL (ev_lcy (ea := (eV (eT2 eS eS))) (ec := eI) (iv_V (ev_var (ea := (eV (eV (eT2 eS eS)))) (a := a0) rfl)) (fun _ => rfl) (fun v1 => (ev_2t (g := fun (x : Int) (y : Int) => (x + y)) o_addI (ev_n1t (g := fun (x : (List (W × W))) => (x.length : Int)) (o_lenV (e := (eT2 eS eS))) (ev_var (ea := (eV (eT2 eS eS))) (a := v1) rfl)) (ev_c (ea := eI) (a := 1) rfl)))))))) trivial (gv_skip (gv_set (ev_call2t x_wrong_spot (ev_var (ea := (eV (eV (eT2 eS eS)))) (a := a0) rfl) (ev_var (ea := (eV eI)) (a := a1) rfl)) (fun v6 => (gv_ift (tv_val (ev_2t (g := fun (x : (Option Int)) (y : Unit) => (Option.isSome x)) (o_notN (e := eI)) (ev_var (ea := (eO eI)) (a := v6) rfl) (ev_c (ea := eN) (a := ()) rfl))) trivial (gv_skip (gv_last (gv_rett (ev_var (ea := (eV eI)) (a := a1) rfl) jf_rt))))))))))
def n_do_steps_touch (a0 : (W × W)) (a1 : (W × W)) : RR Bool := RR.san (.ok ((eqB a0.2 a1.2) && (inB w_mark [a0.1, a1.1])))
theorem x_do_steps_touch (a0 : (W × W)) (a1 : (W × W)) : RV (p_do_steps_touch [(eT2 eS eS) a0, (eT2 eS eS) a1]) (n_do_steps_touch a0 a1) eB := rv_fn (t := t_do_steps_touch) (by simp only [belows, RF.b, Bool.and_self]) (gv_last (gv_rett (ev_andt (ev_2t (g := fun (x : W) (y : W) => (eqB x y)) (o_eq (e := eS)) (ev_att (ea := (eT2 eS eS)) (ec := eS) (g := fun p => p.2) (ev_var (ea := (eT2 eS eS)) (a := a0) rfl) fun _ _ => rfl) (ev_att (ea := (eT2 eS eS)) (ec := eS) (g := fun p => p.2) (ev_var (ea := (eT2 eS eS)) (a := a1) rfl) fun _ _ => rfl)) (ev_2t (g := fun (x : W) (y : (List W)) => (inB x y)) (o_inV (e := eS)) (ev_c (ea := eS) (a := w_mark) rfl) (ev_tvk (av_const (ev_att (ea := (eT2 eS eS)) (ec := eS) (g := fun p => p.1) (ev_var (ea := (eT2 eS eS)) (a := a0) rfl) fun _ _ => rfl) (av_const (ev_att (ea := (eT2 eS eS)) (ec := eS) (g := fun p => p.1) (ev_var (ea := (eT2 eS eS)) (a := a1) rfl) fun _ _ => rfl) (av_nilm (e := eS)))) rfl))) jf_rt))
def n_touching_in (a0 : (List (W × W))) (a1 : (List (W × W))) : RR (List (Int × Int)) := RR.san (RR.bnd (foldR (fun v1 v2 => (RR.bnd (foldR (fun v3 v4 => (RR.bnd (n_do_steps_touch v1.2 v3.2) fun v5 => if v5 = true then (if v4.length < sizeLine then .ok (v4 ++ [(v1.1, v3.1)]) else .stuck) else .ok v4)) (enumN 0 a1) v2) fun v6 => .ok v6)) (enumN 0 a0) ([] : List (Int × Int))) fun v7 => .ok v7)
theorem x_touching_in (a0 : (List (W × W))) (a1 : (List (W × W))) : RV (p_touching_in [(eV (eT2 eS eS)) a0, (eV (eT2 eS eS)) a1]) (n_touching_in a0 a1) (eL (eT2 eI eI)) := rv_fn (t := t_touching_in) (by simp only [belows, RF.b, Bool.and_self]) (gv_new (e := (eT2 eI eI)) (gv_wpS (gv_fort (ea := (eT2 eI (eT2 eS eS))) (A := (fun v2 : (List (Int × Int)) => ([some ((eV (eT2 eS eS)) a0), some ((eV (eT2 eS eS)) a1), some (.ref 0), none, none, none, none], [.lst (List.map (eT2 eI eI) v2)]))) (s0 := ([] : List (Int × Int))) (iv_enumVt (ev_var (ea := (eV (eT2 eS eS))) (a := a0) rfl)) rfl (fun v1 v2 => ⟨_, rfl, gv_endS (gv_last (gv_wpS (gv_fort (ea := (eT2 eI (eT2 eS eS))) (A := (fun v4 : (List (Int × Int)) => ([some ((eV (eT2 eS eS)) a0), some ((eV (eT2 eS eS)) a1), some (.ref 0), some (eI v1.1), some ((eT2 eS eS) v1.2), none, none], [.lst (List.map (eT2 eI eI) v4)]))) (s0 := v2) (iv_enumVt (ev_var (ea := (eV (eT2 eS eS))) (a := a1) rfl)) rfl (fun v3 v4 => ⟨_, rfl, gv_endS (gv_last (gv_if (tv_val (ev_call2t x_do_steps_touch (ev_var (ea := (eT2 eS eS)) (a := v1.2) rfl) (ev_var (ea := (eT2 eS eS)) (a := v3.2) rfl))) (gv_appt (e := (eT2 eI eI)) (xs := v4) rfl rfl (ev_t2t (ev_var (ea := eI) (a := v1.1) rfl) (ev_var (ea := eI) (a := v3.1) rfl)) (gv_nil ⟨_, _, .inl rfl, rfl⟩)) (gv_skip (gv_nil ⟨_, _, .inl rfl, rfl⟩))))⟩) (fun v6 => (gv_nil ⟨_, _, .inl rfl, rfl⟩)))))⟩) (fun v7 => (gv_last (gv_frzS (e := (eT2 eI eI)) (xs := v7) rfl rfl (gv_rett (ev_var (ea := (eL (eT2 eI eI))) (a := v7) rfl) jf_rt)))))))
def n_how_many (a0 : (List (List (W × W)))) : RR Int := RR.san (RR.bnd (foldR (fun v1 v2 => (RR.bnd (rng1R ((v1.length : Int) + (1 : Int))) fun v9 => RR.bnd (foldR (fun v3 v4 => (RR.bnd (RR.bnd (if CMul v4.1 (v4.2 + (1 : Int)) then RR.ok (v4.1 * (v4.2 + (1 : Int))) else .stuck) fun v5 => RR.bnd (.ok (v3 + (1 : Int))) fun v6 => (if CDivN v5 v6 then RR.ok (Int.fdiv v5 v6) else .stuck)) fun v7 => .ok (v7, (v4.2 + (1 : Int))))) v9 (v2.1, v2.2)) fun v8 => .ok (v8.1, v8.2))) a0 ((1 : Int), (0 : Int))) fun v10 => .ok v10.1)
theorem x_how_many (a0 : (List (List (W × W)))) : RV (p_how_many [(eV (eV (eT2 eS eS))) a0]) (n_how_many a0) eI := rv_fn (t := t_how_many) (by simp only [belows, RF.b, Bool.and_self]) (gv_part (ev_c (ea := eI) (a := 1) rfl) (ev_c (ea := eI) (a := 0) rfl) (gv_wpS (gv_fort (ea := (eV (eT2 eS eS))) (A := (fun v2 : (Int × Int) => ([some ((eV (eV (eT2 eS eS))) a0), some (eI v2.1), some (eI v2.2), none, none], []))) (s0 := ((1 : Int), (0 : Int))) (iv_V (ev_var (ea := (eV (eV (eT2 eS eS)))) (a := a0) rfl)) rfl (fun v1 v2 => ⟨_, rfl, gv_endS (gv_last (gv_wpS (gv_for (ea := eI) (A := (fun v4 : (Int × Int) => ([some ((eV (eV (eT2 eS eS))) a0), some (eI v4.1), some (eI v4.2), some ((eV (eT2 eS eS)) v1), none], []))) (s0 := (v2.1, v2.2)) (iv_range1t (ev_2t (g := fun (x : Int) (y : Int) => (x + y)) o_addI (ev_n1t (g := fun (x : (List (W × W))) => (x.length : Int)) (o_lenV (e := (eT2 eS eS))) (ev_var (ea := (eV (eT2 eS eS))) (a := v1) rfl)) (ev_c (ea := eI) (a := 1) rfl))) rfl (fun v3 v4 => ⟨_, rfl, gv_endS (gv_augt (x := v4.2) (op := fun a b => a + b) o_ipAdd rfl (ev_c (ea := eI) (a := 1) rfl) (gv_last (gv_set (ev_2 (f := fun (x : Int) (y : Int) => (if CDivN x y then RR.ok (Int.fdiv x y) else .stuck)) o_fdivI (ev_2p (f := fun (x : Int) (y : Int) => (if CMul x y then RR.ok (x * y) else .stuck)) o_mulI (ev_var (ea := eI) (a := v4.1) rfl) (ev_var (ea := eI) (a := (v4.2 + (1 : Int))) rfl)) (ev_2t (g := fun (x : Int) (y : Int) => (x + y)) o_addI (ev_var (ea := eI) (a := v3) rfl) (ev_c (ea := eI) (a := 1) rfl))) (fun v7 => (gv_nil ⟨_, _, .inl rfl, rfl⟩)))))⟩) (fun v8 => (gv_nil ⟨_, _, .inl rfl, rfl⟩)))))⟩) (fun v10 => (gv_last (gv_rett (ev_var (ea := eI) (a := v10.1) rfl) jf_rt))))))
def n_l_all_courses (a0 : (List (List (W × W)))) : RR (List (List Int)) := RR.san (RR.bnd (RR.bnd (fitR (List.map (fun v1 => ((v1.length : Int) + (1 : Int))) a0)) fun v2 => RR.ok (List.sum v2)) fun v3 => RR.bnd (.ok [([] : (List Int))]) fun v4 => (RR.bnd (rng1R v3) fun v28 => RR.bnd (foldR (fun v6 v7 => (RR.bnd (foldR (fun v9 v10 => (RR.bnd (rng1R (a0.length : Int)) fun v25 => RR.bnd (foldR (fun v12 v13 => (RR.bnd (RR.bnd (RR.bnd (fitR (List.map (fun v14 => v14) (List.filter (fun v14 => (eqB v14 v12)) v9))) fun v15 => RR.ok (v15.length : Int)) fun v19 => RR.bnd (RR.bnd (RR.bnd (RR.ofO (atI a0 v12)) fun v16 => RR.ok (v16.length : Int)) fun v17 => RR.bnd (.ok (1 : Int)) fun v18 => RR.ok (v17 + v18)) fun v20 => RR.ok (decide (v19 < v20))) fun v23 => if v23 = true then (RR.bnd (fitR (v9 ++ [v12])) fun v22 => (if v13.length < sizeLine then .ok (v13 ++ [v22]) else .stuck)) else .ok v13)) v25 v10) fun v24 => .ok v24)) v7 ([] : List (List Int))) fun v26 => .ok v26)) v28 v4) fun v27 => .ok v27))
theorem x_l_all_courses (a0 : (List (List (W × W)))) : RV (p_l_all_courses [(eV (eV (eT2 eS eS))) a0]) (n_l_all_courses a0) (eL (eV eI)) := rv_fn (t := t_l_all_courses) (by simp only [belows, RF.b, Bool.and_self]) (gv_par (ev_n1 (f := fun (x : (List Int)) => RR.ok (List.sum x)) o_sumL (ev_lcy (ea := (eV (eT2 eS eS))) (ec := eI) (iv_V (ev_var (ea := (eV (eV (eT2 eS eS)))) (a := a0) rfl)) (fun _ => rfl) (fun v1 => (ev_2t (g := fun (x : Int) (y : Int) => (x + y)) o_addI (ev_n1t (g := fun (x : (List (W × W))) => (x.length : Int)) (o_lenV (e := (eT2 eS eS))) (ev_var (ea := (eV (eT2 eS eS))) (a := v1) rfl)) (ev_c (ea := eI) (a := 1) rfl))))) (ev_llk (av_const (ev_tv0 (e := eI)) (av_nilm (e := (eV eI)))) rfl) (fun v3 v4 => (gv_wpS (gv_for (ea := eI) (A := (fun v7 : (List (List Int)) => ([some ((eV (eV (eT2 eS eS))) a0), some (eI v3), some ((eL (eV eI)) v7), none, none, none, none, none, none], []))) (s0 := v4) (iv_range1t (ev_var (ea := eI) (a := v3) rfl)) rfl (fun v6 v7 => ⟨_, rfl, gv_locS (gv_new (e := (eV eI)) (gv_wpS (gv_fort (ea := (eV eI)) (A := (fun v10 : (List (List Int)) => ([some ((eV (eV (eT2 eS eS))) a0), some (eI v3), some ((eL (eV eI)) v7), some (eI v6), some (.ref 0), none, none, none, none], [.lst (List.map (eV eI) v10)]))) (s0 := ([] : List (List Int))) (iv_L (ev_var (ea := (eL (eV eI))) (a := v7) rfl)) rfl (fun v9 v10 => ⟨_, rfl, gv_endS (gv_last (gv_wpS (gv_for (ea := eI) (A := (fun v13 : (List (List Int)) => ([some ((eV (eV (eT2 eS eS))) a0), some (eI v3), some ((eL (eV eI)) v7), some (eI v6), some (.ref 0), some ((eV eI) v9), none, none, none], [.lst (List.map (eV eI) v13)]))) (s0 := v10) (iv_range1t (ev_n1t (g := fun (x : (List (List (W × W)))) => (x.length : Int)) (o_lenV (e := (eV (eT2 eS eS)))) (ev_var (ea := (eV (eV (eT2 eS eS)))) (a := a0) rfl))) rfl (fun v12 v13 => ⟨_, rfl, gv_endS (gv_last (gv_if (tv_val (ev_2 (f := fun (x : Int) (y : Int) => RR.ok (decide (x < y))) o_lt (ev_n1 (f := fun (x : (List Int)) => RR.ok (x.length : Int)) (o_lenL (e := eI)) (ev_lct (ea := eI) (ec := eI) (iv_V (ev_var (ea := (eV eI)) (a := v9) rfl)) (fun _ => rfl) (fun v14 => (tv_val (ev_2t (g := fun (x : Int) (y : Int) => (eqB x y)) (o_eq (e := eI)) (ev_var (ea := eI) (a := v14) rfl) (ev_var (ea := eI) (a := v12) rfl)))) (fun v14 => (ev_var (ea := eI) (a := v14) rfl)))) (ev_2 (f := fun (x : Int) (y : Int) => RR.ok (x + y)) o_addI (ev_n1 (f := fun (x : (List (W × W))) => RR.ok (x.length : Int)) (o_lenV (e := (eT2 eS eS))) (ev_2p (f := fun (x : (List (List (W × W)))) (y : Int) => (RR.ofO (atI x y))) (o_itV (e := (eV (eT2 eS eS)))) (ev_var (ea := (eV (eV (eT2 eS eS)))) (a := a0) rfl) (ev_var (ea := eI) (a := v12) rfl))) (ev_c (ea := eI) (a := 1) rfl)))) (gv_app (e := (eV eI)) (xs := v13) rfl rfl (ev_2p (f := fun (x : (List Int)) (y : (List Int)) => (fitR (x ++ y))) (o_addV (e := eI)) (ev_var (ea := (eV eI)) (a := v9) rfl) (ev_tvk (av_const (ev_var (ea := eI) (a := v12) rfl) (av_nilm (e := eI))) rfl)) (fun v22 => (gv_nil ⟨_, _, .inl rfl, rfl⟩))) (gv_skip (gv_nil ⟨_, _, .inl rfl, rfl⟩))))⟩) (fun v24 => (gv_nil ⟨_, _, .inl rfl, rfl⟩)))))⟩) (fun v26 => (gv_last (gv_frzS (e := (eV eI)) (xs := v26) rfl rfl (gv_sett (ev_var (ea := (eL (eV eI))) (a := v26) rfl) (gv_nil ⟨_, _, .inl rfl, (scope_some rfl rfl rfl (slb_v (e := (eV (eV (eT2 eS eS)))) (a := a0) (slb_v (e := eI) (a := v3) (slb_v (e := (eL (eV eI))) (a := v26) (slb_none (slb_none (slb_none (slb_none (slb_none (slb_none slb_nil))))))))) bo_nil)⟩))))))))⟩) (fun v27 => (gv_last (gv_rett (ev_var (ea := (eL (eV eI))) (a := v27) rfl) jf_rt)))))))
def n_times_of (a0 : (List (List (W × W)))) (a1 : (List Int)) : RR (List (List Int)) := RR.san (RR.bnd (rng1R (a0.length : Int)) fun v3 => RR.bnd (lcR (fun v1 => (.ok true)) (fun v1 => (fitR (List.map (fun v2 => v2.1) (List.filter (fun v2 => (eqB v2.2 v1)) (enumN 0 a1))))) v3) fitR)
theorem x_times_of (a0 : (List (List (W × W)))) (a1 : (List Int)) : RV (p_times_of [(eV (eV (eT2 eS eS))) a0, (eV eI) a1]) (n_times_of a0 a1) (eL (eL eI)) := rv_fn (t := t_times_of) (by simp only [belows, RF.b, Bool.and_self]) (gv_last (gv_retp (ev_lc (ea := eI) (ec := (eL eI)) (iv_range1t (ev_n1t (g := fun (x : (List (List (W × W)))) => (x.length : Int)) (o_lenV (e := (eV (eT2 eS eS)))) (ev_var (ea := (eV (eV (eT2 eS eS)))) (a := a0) rfl))) (fun _ => rfl) (fun v1 => tv_yes) (fun v1 => (ev_lct (ea := (eT2 eI eI)) (ec := eI) (iv_enumVt (ev_var (ea := (eV eI)) (a := a1) rfl)) (fun _ => rfl) (fun v2 => (tv_val (ev_2t (g := fun (x : Int) (y : Int) => (eqB x y)) (o_eq (e := eI)) (ev_var (ea := eI) (a := v2.2) rfl) (ev_var (ea := eI) (a := v1) rfl)))) (fun v2 => (ev_var (ea := eI) (a := v2.1) rfl)))))))
def n_need_all (a0 : (List (List (W × W)))) (a1 : (List W)) (a2 : (List Int)) : RR Unit := RR.san (RR.bnd (n_need_levels a0 a1) fun v2 => (RR.bnd (n_need_run a0 a2) fun v1 => .ok ()))
theorem x_need_all (a0 : (List (List (W × W)))) (a1 : (List W)) (a2 : (List Int)) : RV (p_need_all [(eV (eV (eT2 eS eS))) a0, (eV eS) a1, (eV eI) a2]) (n_need_all a0 a1 a2) eN := rv_fn (t := t_need_all) (by simp only [belows, RF.b, Bool.and_self]) (gv_expr (ev_call2t x_need_levels (ev_var (ea := (eV (eV (eT2 eS eS)))) (a := a0) rfl) (ev_var (ea := (eV eS)) (a := a1) rfl)) (fun v2 => (gv_last (gv_expr (ev_call2t x_need_run (ev_var (ea := (eV (eV (eT2 eS eS)))) (a := a0) rfl) (ev_var (ea := (eV eI)) (a := a2) rfl)) (fun v1 => (gv_nil (.inr ⟨_, _, rfl, rfl⟩)))))))
def n_markers (a0 : (List (List (W × W)))) (a1 : Int) (a2 : W) : RR (List Int) := RR.san (fitR (List.map (fun v1 => v1.1) (List.filter (fun v1 => ((!eqB v1.1 a1) && (inB (w_mark, a2) v1.2))) (enumN 0 a0))))
theorem x_markers (a0 : (List (List (W × W)))) (a1 : Int) (a2 : W) : RV (p_markers [(eV (eV (eT2 eS eS))) a0, eI a1, eS a2]) (n_markers a0 a1 a2) (eL eI) := rv_fn (t := t_markers) (by simp only [belows, RF.b, Bool.and_self]) (gv_last (gv_retp (ev_lct (ea := (eT2 eI (eV (eT2 eS eS)))) (ec := eI) (iv_enumVt (ev_var (ea := (eV (eV (eT2 eS eS)))) (a := a0) rfl)) (fun _ => rfl) (fun v1 => (tv_andt (tv_val (ev_2t (g := fun (x : Int) (y : Int) => (!eqB x y)) (o_ne (e := eI)) (ev_var (ea := eI) (a := v1.1) rfl) (ev_var (ea := eI) (a := a1) rfl))) (tv_val (ev_2t (g := fun (x : (W × W)) (y : (List (W × W))) => (inB x y)) (o_inV (e := (eT2 eS eS))) (ev_t2t (ev_c (ea := eS) (a := w_mark) rfl) (ev_var (ea := eS) (a := a2) rfl)) (ev_var (ea := (eV (eT2 eS eS))) (a := v1.2) rfl))))) (fun v1 => (ev_var (ea := eI) (a := v1.1) rfl)))))
def n_sight_of (a0 : (List (List (W × W)))) (a1 : (List W)) (a2 : (List (List Int))) (a3 : Int) (a4 : Int) : RR (Option Int) := RR.san (RR.bnd (RR.bnd (RR.ofO (atI a2 a3)) fun v4 => RR.bnd (RR.bnd (RR.bnd (RR.ofO (atI a1 a3)) fun v1 => RR.bnd (.ok w_late) fun v2 => RR.ok (eqB v1 v2)) fun v3 => if v3 = true then (.ok a4) else (.ok (0 : Int))) fun v5 => (RR.ofO (atI v4 v5))) fun v6 => (RR.bnd (RR.bnd (RR.bnd (.ok a0) fun v10 => RR.bnd (.ok a3) fun v11 => RR.bnd (RR.bnd (RR.bnd (RR.ofO (atI a0 a3)) fun v7 => RR.bnd (.ok a4) fun v8 => (RR.ofO (atI v7 v8))) fun v9 => .ok v9.2) fun v12 => n_markers v10 v11 v12) fun v22 => RR.bnd (lcR (fun v13 => (RR.bnd (RR.bnd (RR.ofO (atI a2 v13)) fun v14 => RR.bnd (.ok (-(1 : Int))) fun v15 => (RR.ofO (atI v14 v15))) fun v16 => RR.bnd (.ok v6) fun v17 => RR.ok (decide (v16 < v17)))) (fun v13 => (RR.bnd (RR.bnd (RR.ofO (atI a2 v13)) fun v18 => RR.bnd (.ok (-(1 : Int))) fun v19 => (RR.ofO (atI v18 v19))) fun v20 => RR.bnd (.ok v13) fun v21 => .ok (v20, v21))) v22) fitR) fun v23 => (RR.bnd (.ok (!eqB v23 ([] : (List (Int × Int))))) fun v25 => if v25 = true then (RR.bnd (RR.bnd (maxR (ltP ltI ltI) v23) fun v24 => .ok v24.2) fun a => .ok (some a)) else (.ok (none : (Option Int))))))
theorem x_sight_of (a0 : (List (List (W × W)))) (a1 : (List W)) (a2 : (List (List Int))) (a3 : Int) (a4 : Int) : RV (p_sight_of [(eV (eV (eT2 eS eS))) a0, (eV eS) a1, (eL (eL eI)) a2, eI a3, eI a4]) (n_sight_of a0 a1 a2 a3 a4) (eO eI) := rv_fn (t := t_sight_of) (by simp only [belows, RF.b, Bool.and_self]) (gv_set (ev_2 (f := fun (x : (List Int)) (y : Int) => (RR.ofO (atI x y))) (o_itL (e := eI)) (ev_2p (f := fun (x : (List (List Int))) (y : Int) => (RR.ofO (atI x y))) (o_itL (e := (eL eI))) (ev_var (ea := (eL (eL eI))) (a := a2) rfl) (ev_var (ea := eI) (a := a3) rfl)) (ev_if (tv_val (ev_2 (f := fun (x : W) (y : W) => RR.ok (eqB x y)) (o_eq (e := eS)) (ev_2p (f := fun (x : (List W)) (y : Int) => (RR.ofO (atI x y))) (o_itV (e := eS)) (ev_var (ea := (eV eS)) (a := a1) rfl) (ev_var (ea := eI) (a := a3) rfl)) (ev_c (ea := eS) (a := w_late) rfl))) (ev_var (ea := eI) (a := a4) rfl) (ev_c (ea := eI) (a := 0) rfl))) (fun v6 => (gv_set (ev_lc (ea := eI) (ec := (eT2 eI eI)) (iv_L (ev_call3 x_markers (ev_var (ea := (eV (eV (eT2 eS eS)))) (a := a0) rfl) (ev_var (ea := eI) (a := a3) rfl) (ev_at (ea := (eT2 eS eS)) (ec := eS) (g := fun p => p.2) (ev_2 (f := fun (x : (List (W × W))) (y : Int) => (RR.ofO (atI x y))) (o_itV (e := (eT2 eS eS))) (ev_2p (f := fun (x : (List (List (W × W)))) (y : Int) => (RR.ofO (atI x y))) (o_itV (e := (eV (eT2 eS eS)))) (ev_var (ea := (eV (eV (eT2 eS eS)))) (a := a0) rfl) (ev_var (ea := eI) (a := a3) rfl)) (ev_var (ea := eI) (a := a4) rfl)) fun _ _ => rfl))) (fun _ => rfl) (fun v13 => (tv_val (ev_2 (f := fun (x : Int) (y : Int) => RR.ok (decide (x < y))) o_lt (ev_2 (f := fun (x : (List Int)) (y : Int) => (RR.ofO (atI x y))) (o_itL (e := eI)) (ev_2p (f := fun (x : (List (List Int))) (y : Int) => (RR.ofO (atI x y))) (o_itL (e := (eL eI))) (ev_var (ea := (eL (eL eI))) (a := a2) rfl) (ev_var (ea := eI) (a := v13) rfl)) (ev_1t (g := fun (x : Int) => -x) o_negI (ev_c (ea := eI) (a := 1) rfl))) (ev_var (ea := eI) (a := v6) rfl)))) (fun v13 => (ev_t2 (ev_2 (f := fun (x : (List Int)) (y : Int) => (RR.ofO (atI x y))) (o_itL (e := eI)) (ev_2p (f := fun (x : (List (List Int))) (y : Int) => (RR.ofO (atI x y))) (o_itL (e := (eL eI))) (ev_var (ea := (eL (eL eI))) (a := a2) rfl) (ev_var (ea := eI) (a := v13) rfl)) (ev_1t (g := fun (x : Int) => -x) o_negI (ev_c (ea := eI) (a := 1) rfl))) (ev_var (ea := eI) (a := v13) rfl)))) (fun v23 => (gv_last (gv_retp (ev_if (tv_val (ev_2t (g := fun (x : (List (Int × Int))) (y : (List (Int × Int))) => (!eqB x y)) (o_ne (e := (eL (eT2 eI eI)))) (ev_var (ea := (eL (eT2 eI eI))) (a := v23) rfl) (ev_ll0 (e := (eT2 eI eI))))) (ev_some (e := eI) (ev_at (ea := (eT2 eI eI)) (ec := eI) (g := fun p => p.2) (ev_n1p (f := fun (x : (List (Int × Int))) => (maxR (ltP ltI ltI) x)) (o_maxL (e := (eT2 eI eI))) (ev_var (ea := (eL (eT2 eI eI))) (a := v23) rfl)) fun _ _ => rfl)) (ev_none (e := eI) (ev_c (ea := eN) (a := ()) rfl)))))))))
def n_seen_in (a0 : (List (List (W × W)))) (a1 : (List W)) (a2 : (List (List Int))) : RR (List (Int × Int × (Option Int))) := RR.san (RR.bnd (foldR (fun v1 v2 => (RR.bnd (foldR (fun v3 v4 => (if (eqB v3.2.1 w_look) = true then (RR.bnd (RR.bnd (.ok v1.1) fun v15 => RR.bnd (.ok v3.1) fun v16 => RR.bnd (n_sight_of a0 a1 a2 v1.1 v3.1) fun v17 => .ok (v15, v16, v17)) fun v18 => (if v4.length < sizeLine then .ok (v4 ++ [v18]) else .stuck)) else .ok v4)) (enumN 0 v1.2) v2) fun v19 => .ok v19)) (enumN 0 a0) ([] : List (Int × Int × (Option Int)))) fun v20 => .ok v20)
theorem x_seen_in (a0 : (List (List (W × W)))) (a1 : (List W)) (a2 : (List (List Int))) : RV (p_seen_in [(eV (eV (eT2 eS eS))) a0, (eV eS) a1, (eL (eL eI)) a2]) (n_seen_in a0 a1 a2) (eL (eT3 eI eI (eO eI))) := rv_fn (t := t_seen_in) (by simp only [belows, RF.b, Bool.and_self]) (gv_new (e := (eT3 eI eI (eO eI))) (gv_wpS (gv_fort (ea := (eT2 eI (eV (eT2 eS eS)))) (A := (fun v2 : (List (Int × Int × (Option Int))) => ([some ((eV (eV (eT2 eS eS))) a0), some ((eV eS) a1), some ((eL (eL eI)) a2), some (.ref 0), none, none, none, none, none], [.lst (List.map (eT3 eI eI (eO eI)) v2)]))) (s0 := ([] : List (Int × Int × (Option Int)))) (iv_enumVt (ev_var (ea := (eV (eV (eT2 eS eS)))) (a := a0) rfl)) rfl (fun v1 v2 => ⟨_, rfl, gv_endS (gv_last (gv_wpS (gv_fort (ea := (eT2 eI (eT2 eS eS))) (A := (fun v4 : (List (Int × Int × (Option Int))) => ([some ((eV (eV (eT2 eS eS))) a0), some ((eV eS) a1), some ((eL (eL eI)) a2), some (.ref 0), some (eI v1.1), some ((eV (eT2 eS eS)) v1.2), none, none, none], [.lst (List.map (eT3 eI eI (eO eI)) v4)]))) (s0 := v2) (iv_enumVt (ev_var (ea := (eV (eT2 eS eS))) (a := v1.2) rfl)) rfl (fun v3 v4 => ⟨_, rfl, gv_endS (gv_last (gv_ift (tv_val (ev_2t (g := fun (x : W) (y : W) => (eqB x y)) (o_eq (e := eS)) (ev_var (ea := eS) (a := v3.2.1) rfl) (ev_c (ea := eS) (a := w_look) rfl))) (gv_app (e := (eT3 eI eI (eO eI))) (xs := v4) rfl rfl (ev_t3 (ev_var (ea := eI) (a := v1.1) rfl) (ev_var (ea := eI) (a := v3.1) rfl) (ev_call5t x_sight_of (ev_var (ea := (eV (eV (eT2 eS eS)))) (a := a0) rfl) (ev_var (ea := (eV eS)) (a := a1) rfl) (ev_var (ea := (eL (eL eI))) (a := a2) rfl) (ev_var (ea := eI) (a := v1.1) rfl) (ev_var (ea := eI) (a := v3.1) rfl))) (fun v18 => (gv_nil ⟨_, _, .inl rfl, rfl⟩))) (gv_skip (gv_nil ⟨_, _, .inl rfl, rfl⟩))))⟩) (fun v19 => (gv_nil ⟨_, _, .inl rfl, rfl⟩)))))⟩) (fun v20 => (gv_last (gv_frzS (e := (eT3 eI eI (eO eI))) (xs := v20) rfl rfl (gv_rett (ev_var (ea := (eL (eT3 eI eI (eO eI)))) (a := v20) rfl) jf_rt)))))))
def n_seen (a0 : (List (List (W × W)))) (a1 : (List W)) (a2 : (List Int)) : RR (List (Int × Int × (Option Int))) := RR.san (RR.bnd (n_need_all a0 a1 a2) fun v5 => (RR.bnd (RR.bnd (.ok a0) fun v1 => RR.bnd (.ok a1) fun v2 => RR.bnd (n_times_of a0 a2) fun v3 => n_seen_in v1 v2 v3) fun v4 => RR.ok v4))
theorem x_seen (a0 : (List (List (W × W)))) (a1 : (List W)) (a2 : (List Int)) : RV (p_seen [(eV (eV (eT2 eS eS))) a0, (eV eS) a1, (eV eI) a2]) (n_seen a0 a1 a2) (eV (eT3 eI eI (eO eI))) := rv_fn (t := t_seen) (by simp only [belows, RF.b, Bool.and_self]) (gv_expr (ev_call3t x_need_all (ev_var (ea := (eV (eV (eT2 eS eS)))) (a := a0) rfl) (ev_var (ea := (eV eS)) (a := a1) rfl) (ev_var (ea := (eV eI)) (a := a2) rfl)) (fun v5 => (gv_last (gv_retp (ev_n1 (f := fun (x : (List (Int × Int × (Option Int)))) => RR.ok x) (o_tupleL (e := (eT3 eI eI (eO eI)))) (ev_call3 x_seen_in (ev_var (ea := (eV (eV (eT2 eS eS)))) (a := a0) rfl) (ev_var (ea := (eV eS)) (a := a1) rfl) (ev_call2t x_times_of (ev_var (ea := (eV (eV (eT2 eS eS)))) (a := a0) rfl) (ev_var (ea := (eV eI)) (a := a2) rfl))))))))
def n_l_marks (a0 : (List (W × W))) (a1 : W) : RR Bool := RR.san (.ok (inB (w_mark, a1) a0))
theorem x_l_marks (a0 : (List (W × W))) (a1 : W) : RV (p_l_marks [(eV (eT2 eS eS)) a0, eS a1]) (n_l_marks a0 a1) eB := rv_fn (t := t_l_marks) (by simp only [belows, RF.b, Bool.and_self]) (gv_last (gv_rett (ev_2t (g := fun (x : (W × W)) (y : (List (W × W))) => (inB x y)) (o_inV (e := (eT2 eS eS))) (ev_t2t (ev_c (ea := eS) (a := w_mark) rfl) (ev_var (ea := eS) (a := a1) rfl)) (ev_var (ea := (eV (eT2 eS eS))) (a := a0) rfl)) jf_rt))
def n_l_sight (a0 : (List (List (W × W)))) (a1 : (List W)) (a2 : (List (List Int))) (a3 : Int) (a4 : Int) : RR (Option Int) := RR.san (RR.bnd (RR.bnd (RR.ofO (atI a2 a3)) fun v1 => RR.bnd (.ok (0 : Int)) fun v2 => (RR.ofO (atI v1 v2))) fun v6 => RR.bnd (RR.bnd (RR.bnd (RR.ofO (atI a0 a3)) fun v3 => RR.bnd (.ok a4) fun v4 => (RR.ofO (atI v3 v4))) fun v5 => .ok v5.2) fun v7 => (RR.bnd (RR.bnd (RR.ofO (atI a1 a3)) fun v8 => RR.bnd (.ok w_late) fun v9 => RR.ok (eqB v8 v9)) fun v80 => if v80 = true then (RR.bnd (RR.bnd (RR.ofO (atI a2 a3)) fun v13 => RR.bnd (.ok a4) fun v14 => (RR.ofO (atI v13 v14))) fun v15 => (RR.bnd (rng1R (a0.length : Int)) fun v47 => RR.bnd (foldR (fun v16 v17 => (RR.bnd (RR.bnd (.ok (!eqB v16 a3)) fun v25 => if v25 = true then (RR.bnd (RR.bnd (RR.ofO (atI a0 v16)) fun v18 => RR.bnd (.ok v7) fun v19 => n_l_marks v18 v19) fun v24 => if v24 = true then (RR.bnd (RR.bnd (RR.ofO (atI a2 v16)) fun v20 => RR.bnd (.ok (-(1 : Int))) fun v21 => (RR.ofO (atI v20 v21))) fun v22 => RR.bnd (.ok v15) fun v23 => RR.ok (decide (v22 < v23))) else .ok false) else .ok false) fun v45 => if v45 = true then (RR.bnd (RR.bnd (.ok (Option.isNone v17)) fun v43 => if v43 = true then .ok true else (RR.bnd (RR.bnd (RR.ofO (atI a2 v16)) fun v35 => RR.bnd (.ok (-(1 : Int))) fun v36 => (RR.ofO (atI v35 v36))) fun v41 => RR.bnd (RR.bnd (RR.bnd (.ok a2) fun v37 => RR.bnd (unO v17) fun v38 => (RR.ofO (atI v37 v38))) fun v39 => RR.bnd (.ok (-(1 : Int))) fun v40 => (RR.ofO (atI v39 v40))) fun v42 => RR.ok (decide (v42 < v41)))) fun v44 => if v44 = true then .ok (some v16) else .ok v17) else .ok v17)) v47 (none : (Option Int))) fun v46 => .ok v46)) else (RR.bnd (rng1R (a0.length : Int)) fun v79 => RR.bnd (foldR (fun v48 v49 => (RR.bnd (RR.bnd (.ok (!eqB v48 a3)) fun v57 => if v57 = true then (RR.bnd (RR.bnd (RR.ofO (atI a0 v48)) fun v50 => RR.bnd (.ok v7) fun v51 => n_l_marks v50 v51) fun v56 => if v56 = true then (RR.bnd (RR.bnd (RR.ofO (atI a2 v48)) fun v52 => RR.bnd (.ok (-(1 : Int))) fun v53 => (RR.ofO (atI v52 v53))) fun v54 => RR.bnd (.ok v6) fun v55 => RR.ok (decide (v54 < v55))) else .ok false) else .ok false) fun v77 => if v77 = true then (RR.bnd (RR.bnd (.ok (Option.isNone v49)) fun v75 => if v75 = true then .ok true else (RR.bnd (RR.bnd (RR.ofO (atI a2 v48)) fun v67 => RR.bnd (.ok (-(1 : Int))) fun v68 => (RR.ofO (atI v67 v68))) fun v73 => RR.bnd (RR.bnd (RR.bnd (.ok a2) fun v69 => RR.bnd (unO v49) fun v70 => (RR.ofO (atI v69 v70))) fun v71 => RR.bnd (.ok (-(1 : Int))) fun v72 => (RR.ofO (atI v71 v72))) fun v74 => RR.ok (decide (v74 < v73)))) fun v76 => if v76 = true then .ok (some v48) else .ok v49) else .ok v49)) v79 (none : (Option Int))) fun v78 => .ok v78)))
theorem x_l_sight (a0 : (List (List (W × W)))) (a1 : (List W)) (a2 : (List (List Int))) (a3 : Int) (a4 : Int) : RV (p_l_sight [(eV (eV (eT2 eS eS))) a0, (eV eS) a1, (eL (eL eI)) a2, eI a3, eI a4]) (n_l_sight a0 a1 a2 a3 a4) (eO eI) := rv_fn (t := t_l_sight) (by simp only [belows, RF.b, Bool.and_self]) (gv_par (ev_2 (f := fun (x : (List Int)) (y : Int) => (RR.ofO (atI x y))) (o_itL (e := eI)) (ev_2p (f := fun (x : (List (List Int))) (y : Int) => (RR.ofO (atI x y))) (o_itL (e := (eL eI))) (ev_var (ea := (eL (eL eI))) (a := a2) rfl) (ev_var (ea := eI) (a := a3) rfl)) (ev_c (ea := eI) (a := 0) rfl)) (ev_at (ea := (eT2 eS eS)) (ec := eS) (g := fun p => p.2) (ev_2 (f := fun (x : (List (W × W))) (y : Int) => (RR.ofO (atI x y))) (o_itV (e := (eT2 eS eS))) (ev_2p (f := fun (x : (List (List (W × W)))) (y : Int) => (RR.ofO (atI x y))) (o_itV (e := (eV (eT2 eS eS)))) (ev_var (ea := (eV (eV (eT2 eS eS)))) (a := a0) rfl) (ev_var (ea := eI) (a := a3) rfl)) (ev_var (ea := eI) (a := a4) rfl)) fun _ _ => rfl) (fun v6 v7 => (gv_if (tv_val (ev_2 (f := fun (x : W) (y : W) => RR.ok (eqB x y)) (o_eq (e := eS)) (ev_2p (f := fun (x : (List W)) (y : Int) => (RR.ofO (atI x y))) (o_itV (e := eS)) (ev_var (ea := (eV eS)) (a := a1) rfl) (ev_var (ea := eI) (a := a3) rfl)) (ev_c (ea := eS) (a := w_late) rfl))) (gv_set (ev_2 (f := fun (x : (List Int)) (y : Int) => (RR.ofO (atI x y))) (o_itL (e := eI)) (ev_2p (f := fun (x : (List (List Int))) (y : Int) => (RR.ofO (atI x y))) (o_itL (e := (eL eI))) (ev_var (ea := (eL (eL eI))) (a := a2) rfl) (ev_var (ea := eI) (a := a3) rfl)) (ev_var (ea := eI) (a := a4) rfl)) (fun v15 => (gv_sett (ev_c (ea := eN) (a := ()) rfl) (gv_wpS (gv_for (ea := eI) (A := (fun v17 : (Option Int) => ([some ((eV (eV (eT2 eS eS))) a0), some ((eV eS) a1), some ((eL (eL eI)) a2), some (eI a3), some (eI a4), some (eI v15), some (eS v7), some ((eO eI) v17), none], []))) (s0 := (none : (Option Int))) (iv_range1t (ev_n1t (g := fun (x : (List (List (W × W)))) => (x.length : Int)) (o_lenV (e := (eV (eT2 eS eS)))) (ev_var (ea := (eV (eV (eT2 eS eS)))) (a := a0) rfl))) rfl (fun v16 v17 => ⟨_, rfl, gv_endS (gv_last (gv_if (tv_and (tv_val (ev_2t (g := fun (x : Int) (y : Int) => (!eqB x y)) (o_ne (e := eI)) (ev_var (ea := eI) (a := v16) rfl) (ev_var (ea := eI) (a := a3) rfl))) (tv_and (tv_val (ev_call2 x_l_marks (ev_2p (f := fun (x : (List (List (W × W)))) (y : Int) => (RR.ofO (atI x y))) (o_itV (e := (eV (eT2 eS eS)))) (ev_var (ea := (eV (eV (eT2 eS eS)))) (a := a0) rfl) (ev_var (ea := eI) (a := v16) rfl)) (ev_var (ea := eS) (a := v7) rfl))) (tv_val (ev_2 (f := fun (x : Int) (y : Int) => RR.ok (decide (x < y))) o_lt (ev_2 (f := fun (x : (List Int)) (y : Int) => (RR.ofO (atI x y))) (o_itL (e := eI)) (ev_2p (f := fun (x : (List (List Int))) (y : Int) => (RR.ofO (atI x y))) (o_itL (e := (eL eI))) (ev_var (ea := (eL (eL eI))) (a := a2) rfl) (ev_var (ea := eI) (a := v16) rfl)) (ev_1t (g := fun (x : Int) => -x) o_negI (ev_c (ea := eI) (a := 1) rfl))) (ev_var (ea := eI) (a := v15) rfl))))) (gv_if (tv_or (tv_val (ev_2t (g := fun (x : (Option Int)) (y : Unit) => (Option.isNone x)) (o_isN (e := eI)) (ev_var (ea := (eO eI)) (a := v17) rfl) (ev_c (ea := eN) (a := ()) rfl))) (tv_val (ev_2 (f := fun (x : Int) (y : Int) => RR.ok (decide (y < x))) o_gt (ev_2 (f := fun (x : (List Int)) (y : Int) => (RR.ofO (atI x y))) (o_itL (e := eI)) (ev_2p (f := fun (x : (List (List Int))) (y : Int) => (RR.ofO (atI x y))) (o_itL (e := (eL eI))) (ev_var (ea := (eL (eL eI))) (a := a2) rfl) (ev_var (ea := eI) (a := v16) rfl)) (ev_1t (g := fun (x : Int) => -x) o_negI (ev_c (ea := eI) (a := 1) rfl))) (ev_2 (f := fun (x : (List Int)) (y : Int) => (RR.ofO (atI x y))) (o_itL (e := eI)) (ev_2 (f := fun (x : (List (List Int))) (y : Int) => (RR.ofO (atI x y))) (o_itL (e := (eL eI))) (ev_var (ea := (eL (eL eI))) (a := a2) rfl) (ev_unt (ev_var (ea := (eO eI)) (a := v17) rfl))) (ev_1t (g := fun (x : Int) => -x) o_negI (ev_c (ea := eI) (a := 1) rfl)))))) (gv_sett (ev_var (ea := eI) (a := v16) rfl) (gv_nil ⟨_, _, .inl rfl, rfl⟩)) (gv_skip (gv_nil ⟨_, _, .inl rfl, rfl⟩))) (gv_skip (gv_nil ⟨_, _, .inl rfl, rfl⟩))))⟩) (fun v46 => (gv_last (gv_rett (ev_var (ea := (eO eI)) (a := v46) rfl) jf_rt)))))))) (gv_skip (gv_sett (ev_c (ea := eN) (a := ()) rfl) (gv_wpS (gv_for (ea := eI) (A := (fun v49 : (Option Int) => ([some ((eV (eV (eT2 eS eS))) a0), some ((eV eS) a1), some ((eL (eL eI)) a2), some (eI a3), some (eI a4), some (eI v6), some (eS v7), some ((eO eI) v49), none], []))) (s0 := (none : (Option Int))) (iv_range1t (ev_n1t (g := fun (x : (List (List (W × W)))) => (x.length : Int)) (o_lenV (e := (eV (eT2 eS eS)))) (ev_var (ea := (eV (eV (eT2 eS eS)))) (a := a0) rfl))) rfl (fun v48 v49 => ⟨_, rfl, gv_endS (gv_last (gv_if (tv_and (tv_val (ev_2t (g := fun (x : Int) (y : Int) => (!eqB x y)) (o_ne (e := eI)) (ev_var (ea := eI) (a := v48) rfl) (ev_var (ea := eI) (a := a3) rfl))) (tv_and (tv_val (ev_call2 x_l_marks (ev_2p (f := fun (x : (List (List (W × W)))) (y : Int) => (RR.ofO (atI x y))) (o_itV (e := (eV (eT2 eS eS)))) (ev_var (ea := (eV (eV (eT2 eS eS)))) (a := a0) rfl) (ev_var (ea := eI) (a := v48) rfl)) (ev_var (ea := eS) (a := v7) rfl))) (tv_val (ev_2 (f := fun (x : Int) (y : Int) => RR.ok (decide (x < y))) o_lt (ev_2 (f := fun (x : (List Int)) (y : Int) => (RR.ofO (atI x y))) (o_itL (e := eI)) (ev_2p (f := fun (x : (List (List Int))) (y : Int) => (RR.ofO (atI x y))) (o_itL (e := (eL eI))) (ev_var (ea := (eL (eL eI))) (a := a2) rfl) (ev_var (ea := eI) (a := v48) rfl)) (ev_1t (g := fun (x : Int) => -x) o_negI (ev_c (ea := eI) (a := 1) rfl))) (ev_var (ea := eI) (a := v6) rfl))))) (gv_if (tv_or (tv_val (ev_2t (g := fun (x : (Option Int)) (y : Unit) => (Option.isNone x)) (o_isN (e := eI)) (ev_var (ea := (eO eI)) (a := v49) rfl) (ev_c (ea := eN) (a := ()) rfl))) (tv_val (ev_2 (f := fun (x : Int) (y : Int) => RR.ok (decide (y < x))) o_gt (ev_2 (f := fun (x : (List Int)) (y : Int) => (RR.ofO (atI x y))) (o_itL (e := eI)) (ev_2p (f := fun (x : (List (List Int))) (y : Int) => (RR.ofO (atI x y))) (o_itL (e := (eL eI))) (ev_var (ea := (eL (eL eI))) (a := a2) rfl) (ev_var (ea := eI) (a := v48) rfl)) (ev_1t (g := fun (x : Int) => -x) o_negI (ev_c (ea := eI) (a := 1) rfl))) (ev_2 (f := fun (x : (List Int)) (y : Int) => (RR.ofO (atI x y))) (o_itL (e := eI)) (ev_2 (f := fun (x : (List (List Int))) (y : Int) => (RR.ofO (atI x y))) (o_itL (e := (eL eI))) (ev_var (ea := (eL (eL eI))) (a := a2) rfl) (ev_unt (ev_var (ea := (eO eI)) (a := v49) rfl))) (ev_1t (g := fun (x : Int) => -x) o_negI (ev_c (ea := eI) (a := 1) rfl)))))) (gv_sett (ev_var (ea := eI) (a := v48) rfl) (gv_nil ⟨_, _, .inl rfl, rfl⟩)) (gv_skip (gv_nil ⟨_, _, .inl rfl, rfl⟩))) (gv_skip (gv_nil ⟨_, _, .inl rfl, rfl⟩))))⟩) (fun v78 => (gv_last (gv_rett (ev_var (ea := (eO eI)) (a := v78) rfl) jf_rt))))))))))
def n_l_looks (a0 : (List (W × W))) : RR (List Int) := RR.san (RR.bnd (rng1R (a0.length : Int)) fun v5 => RR.bnd (lcR (fun v1 => (RR.bnd (RR.bnd (RR.ofO (atI a0 v1)) fun v2 => .ok v2.1) fun v3 => RR.bnd (.ok w_look) fun v4 => RR.ok (eqB v3 v4))) (fun v1 => (.ok v1)) v5) fitR)
theorem x_l_looks (a0 : (List (W × W))) : RV (p_l_looks [(eV (eT2 eS eS)) a0]) (n_l_looks a0) (eL eI) := rv_fn (t := t_l_looks) (by simp only [belows, RF.b, Bool.and_self]) (gv_last (gv_retp (ev_lc (ea := eI) (ec := eI) (iv_range1t (ev_n1t (g := fun (x : (List (W × W))) => (x.length : Int)) (o_lenV (e := (eT2 eS eS))) (ev_var (ea := (eV (eT2 eS eS))) (a := a0) rfl))) (fun _ => rfl) (fun v1 => (tv_val (ev_2 (f := fun (x : W) (y : W) => RR.ok (eqB x y)) (o_eq (e := eS)) (ev_at (ea := (eT2 eS eS)) (ec := eS) (g := fun p => p.1) (ev_2p (f := fun (x : (List (W × W))) (y : Int) => (RR.ofO (atI x y))) (o_itV (e := (eT2 eS eS))) (ev_var (ea := (eV (eT2 eS eS))) (a := a0) rfl) (ev_var (ea := eI) (a := v1) rfl)) fun _ _ => rfl) (ev_c (ea := eS) (a := w_look) rfl)))) (fun v1 => (ev_var (ea := eI) (a := v1) rfl)))))
def n_things_in (a0 : (List (W × W))) (a1 : W) : RR (List W) := RR.san (fitR (List.map (fun v1 => v1.2) (List.filter (fun v1 => (eqB v1.1 a1)) a0)))
theorem x_things_in (a0 : (List (W × W))) (a1 : W) : RV (p_things_in [(eV (eT2 eS eS)) a0, eS a1]) (n_things_in a0 a1) (eL eS) := rv_fn (t := t_things_in) (by simp only [belows, RF.b, Bool.and_self]) (gv_last (gv_retp (ev_lct (ea := (eT2 eS eS)) (ec := eS) (iv_V (ev_var (ea := (eV (eT2 eS eS))) (a := a0) rfl)) (fun _ => rfl) (fun v1 => (tv_val (ev_2t (g := fun (x : W) (y : W) => (eqB x y)) (o_eq (e := eS)) (ev_var (ea := eS) (a := v1.1) rfl) (ev_var (ea := eS) (a := a1) rfl)))) (fun v1 => (ev_var (ea := eS) (a := v1.2) rfl)))))
def n_look_arrows (a0 : (List (List (W × W)))) (a1 : (List (List Int))) (a2 : (Int × Int × (Option Int))) : RR (List (Int × Int × W)) := RR.san (RR.bnd (RR.bnd (.ok a0) fun v10 => RR.bnd (.ok a2.1) fun v11 => RR.bnd (RR.bnd (RR.bnd (RR.ofO (atI a0 a2.1)) fun v7 => RR.bnd (.ok a2.2.1) fun v8 => (RR.ofO (atI v7 v8))) fun v9 => .ok v9.2) fun v12 => n_markers v10 v11 v12) fun v26 => RR.bnd (foldR (fun v13 v14 => (RR.bnd (RR.bnd (.ok (Option.isSome a2.2.2)) fun v23 => if v23 = true then (RR.bnd (RR.bnd (RR.ofO (atI a1 v13)) fun v15 => RR.bnd (.ok (-(1 : Int))) fun v16 => (RR.ofO (atI v15 v16))) fun v21 => RR.bnd (RR.bnd (RR.bnd (.ok a1) fun v17 => RR.bnd (unO a2.2.2) fun v18 => (RR.ofO (atI v17 v18))) fun v19 => RR.bnd (.ok (-(1 : Int))) fun v20 => (RR.ofO (atI v19 v20))) fun v22 => RR.ok (decide (v21 ≤ v22))) else .ok false) fun v24 => if v24 = true then (if v14.length < sizeLine then .ok (v14 ++ [(v13, a2.1, w_shown)]) else .stuck) else (if v14.length < sizeLine then .ok (v14 ++ [(a2.1, v13, w_missed)]) else .stuck))) v26 ([] : List (Int × Int × W))) fun v25 => .ok v25)
theorem x_look_arrows (a0 : (List (List (W × W)))) (a1 : (List (List Int))) (a2 : (Int × Int × (Option Int))) : RV (p_look_arrows [(eV (eV (eT2 eS eS))) a0, (eL (eL eI)) a1, (eT3 eI eI (eO eI)) a2]) (n_look_arrows a0 a1 a2) (eL (eT3 eI eI eS)) := rv_fn (t := t_look_arrows) (by simp only [belows, RF.b, Bool.and_self]) (gv_asgt (ev_var (ea := (eT3 eI eI (eO eI))) (a := a2) rfl) rfl (gv_new (e := (eT3 eI eI eS)) (gv_wpS (gv_for (ea := eI) (A := (fun v14 : (List (Int × Int × W)) => ([some ((eV (eV (eT2 eS eS))) a0), some ((eL (eL eI)) a1), some ((eT3 eI eI (eO eI)) a2), some (eI a2.1), some (eI a2.2.1), some ((eO eI) a2.2.2), some (.ref 0), none], [.lst (List.map (eT3 eI eI eS) v14)]))) (s0 := ([] : List (Int × Int × W))) (iv_L (ev_call3 x_markers (ev_var (ea := (eV (eV (eT2 eS eS)))) (a := a0) rfl) (ev_var (ea := eI) (a := a2.1) rfl) (ev_at (ea := (eT2 eS eS)) (ec := eS) (g := fun p => p.2) (ev_2 (f := fun (x : (List (W × W))) (y : Int) => (RR.ofO (atI x y))) (o_itV (e := (eT2 eS eS))) (ev_2p (f := fun (x : (List (List (W × W)))) (y : Int) => (RR.ofO (atI x y))) (o_itV (e := (eV (eT2 eS eS)))) (ev_var (ea := (eV (eV (eT2 eS eS)))) (a := a0) rfl) (ev_var (ea := eI) (a := a2.1) rfl)) (ev_var (ea := eI) (a := a2.2.1) rfl)) fun _ _ => rfl))) rfl (fun v13 v14 => ⟨_, rfl, gv_endS (gv_last (gv_if (tv_and (tv_val (ev_2t (g := fun (x : (Option Int)) (y : Unit) => (Option.isSome x)) (o_notN (e := eI)) (ev_var (ea := (eO eI)) (a := a2.2.2) rfl) (ev_c (ea := eN) (a := ()) rfl))) (tv_val (ev_2 (f := fun (x : Int) (y : Int) => RR.ok (decide (x ≤ y))) o_le (ev_2 (f := fun (x : (List Int)) (y : Int) => (RR.ofO (atI x y))) (o_itL (e := eI)) (ev_2p (f := fun (x : (List (List Int))) (y : Int) => (RR.ofO (atI x y))) (o_itL (e := (eL eI))) (ev_var (ea := (eL (eL eI))) (a := a1) rfl) (ev_var (ea := eI) (a := v13) rfl)) (ev_1t (g := fun (x : Int) => -x) o_negI (ev_c (ea := eI) (a := 1) rfl))) (ev_2 (f := fun (x : (List Int)) (y : Int) => (RR.ofO (atI x y))) (o_itL (e := eI)) (ev_2 (f := fun (x : (List (List Int))) (y : Int) => (RR.ofO (atI x y))) (o_itL (e := (eL eI))) (ev_var (ea := (eL (eL eI))) (a := a1) rfl) (ev_unt (ev_var (ea := (eO eI)) (a := a2.2.2) rfl))) (ev_1t (g := fun (x : Int) => -x) o_negI (ev_c (ea := eI) (a := 1) rfl)))))) (gv_appt (e := (eT3 eI eI eS)) (xs := v14) rfl rfl (ev_t3t (ev_var (ea := eI) (a := v13) rfl) (ev_var (ea := eI) (a := a2.1) rfl) (ev_c (ea := eS) (a := w_shown) rfl)) (gv_nil ⟨_, _, .inl rfl, rfl⟩)) (gv_appt (e := (eT3 eI eI eS)) (xs := v14) rfl rfl (ev_t3t (ev_var (ea := eI) (a := a2.1) rfl) (ev_var (ea := eI) (a := v13) rfl) (ev_c (ea := eS) (a := w_missed) rfl)) (gv_nil ⟨_, _, .inl rfl, rfl⟩))))⟩) (fun v25 => (gv_last (gv_frzS (e := (eT3 eI eI eS)) (xs := v25) rfl rfl (gv_rett (ev_var (ea := (eL (eT3 eI eI eS))) (a := v25) rfl) jf_rt))))))))
def n_over_arrows (a0 : (List (List (W × W)))) (a1 : (List (List Int))) : RR (List (Int × Int × W)) := RR.san (RR.bnd (foldR (fun v3 v4 => (RR.bnd (n_things_in v3.2 w_mark) fun v22 => RR.bnd (foldR (fun v7 v8 => (RR.bnd (RR.bnd (n_markers a0 v3.1 v7) fun v16 => RR.bnd (lcR (fun v9 => (RR.bnd (RR.bnd (RR.ofO (atI a1 v3.1)) fun v10 => RR.bnd (.ok (-(1 : Int))) fun v11 => (RR.ofO (atI v10 v11))) fun v14 => RR.bnd (RR.bnd (RR.ofO (atI a1 v9)) fun v12 => RR.bnd (.ok (-(1 : Int))) fun v13 => (RR.ofO (atI v12 v13))) fun v15 => RR.ok (decide (v14 < v15)))) (fun v9 => (.ok v9)) v16) fitR) fun v17 => (RR.bnd (fitR (List.map (fun v19 => (v3.1, v19, w_over)) v17)) fun v20 => (if v8.length + v20.length ≤ sizeLine then .ok (v8 ++ v20) else .stuck)))) v22 v4) fun v21 => .ok v21)) (enumN 0 a0) ([] : List (Int × Int × W))) fun v23 => .ok v23)
theorem x_over_arrows (a0 : (List (List (W × W)))) (a1 : (List (List Int))) : RV (p_over_arrows [(eV (eV (eT2 eS eS))) a0, (eL (eL eI)) a1]) (n_over_arrows a0 a1) (eL (eT3 eI eI eS)) := rv_fn (t := t_over_arrows) (by simp only [belows, RF.b, Bool.and_self]) (gv_new (e := (eT3 eI eI eS)) (gv_wpS (gv_fort (ea := (eT2 eI (eV (eT2 eS eS)))) (A := (fun v4 : (List (Int × Int × W)) => ([some ((eV (eV (eT2 eS eS))) a0), some ((eL (eL eI)) a1), some (.ref 0), none, none, none, none, none], [.lst (List.map (eT3 eI eI eS) v4)]))) (s0 := ([] : List (Int × Int × W))) (iv_enumVt (ev_var (ea := (eV (eV (eT2 eS eS)))) (a := a0) rfl)) rfl (fun v3 v4 => ⟨_, rfl, gv_endS (gv_last (gv_wpS (gv_for (ea := eS) (A := (fun v8 : (List (Int × Int × W)) => ([some ((eV (eV (eT2 eS eS))) a0), some ((eL (eL eI)) a1), some (.ref 0), some (eI v3.1), some ((eV (eT2 eS eS)) v3.2), none, none, none], [.lst (List.map (eT3 eI eI eS) v8)]))) (s0 := v4) (iv_L (ev_call2t x_things_in (ev_var (ea := (eV (eT2 eS eS))) (a := v3.2) rfl) (ev_c (ea := eS) (a := w_mark) rfl))) rfl (fun v7 v8 => ⟨_, rfl, gv_endS (gv_set (ev_lc (ea := eI) (ec := eI) (iv_L (ev_call3t x_markers (ev_var (ea := (eV (eV (eT2 eS eS)))) (a := a0) rfl) (ev_var (ea := eI) (a := v3.1) rfl) (ev_var (ea := eS) (a := v7) rfl))) (fun _ => rfl) (fun v9 => (tv_val (ev_2 (f := fun (x : Int) (y : Int) => RR.ok (decide (x < y))) o_lt (ev_2 (f := fun (x : (List Int)) (y : Int) => (RR.ofO (atI x y))) (o_itL (e := eI)) (ev_2p (f := fun (x : (List (List Int))) (y : Int) => (RR.ofO (atI x y))) (o_itL (e := (eL eI))) (ev_var (ea := (eL (eL eI))) (a := a1) rfl) (ev_var (ea := eI) (a := v3.1) rfl)) (ev_1t (g := fun (x : Int) => -x) o_negI (ev_c (ea := eI) (a := 1) rfl))) (ev_2 (f := fun (x : (List Int)) (y : Int) => (RR.ofO (atI x y))) (o_itL (e := eI)) (ev_2p (f := fun (x : (List (List Int))) (y : Int) => (RR.ofO (atI x y))) (o_itL (e := (eL eI))) (ev_var (ea := (eL (eL eI))) (a := a1) rfl) (ev_var (ea := eI) (a := v9) rfl)) (ev_1t (g := fun (x : Int) => -x) o_negI (ev_c (ea := eI) (a := 1) rfl)))))) (fun v9 => (ev_var (ea := eI) (a := v9) rfl))) (fun v17 => (gv_last (gv_ext (e := (eT3 eI eI eS)) (xs := v8) rfl rfl (ev_lcy (ea := eI) (ec := (eT3 eI eI eS)) (iv_L (ev_var (ea := (eL eI)) (a := v17) rfl)) (fun _ => rfl) (fun v19 => (ev_t3t (ev_var (ea := eI) (a := v3.1) rfl) (ev_var (ea := eI) (a := v19) rfl) (ev_c (ea := eS) (a := w_over) rfl)))) (fun v20 => (gv_nil ⟨_, _, .inl rfl, rfl⟩))))))⟩) (fun v21 => (gv_nil ⟨_, _, .inl rfl, rfl⟩)))))⟩) (fun v23 => (gv_last (gv_frzS (e := (eT3 eI eI eS)) (xs := v23) rfl rfl (gv_rett (ev_var (ea := (eL (eT3 eI eI eS))) (a := v23) rfl) jf_rt)))))))
theorem xk_over_arrows (a0 : (List (List (W × W)))) (a1 : (List (List Int))) : RVK (pk_over_arrows [(eV (eV (eT2 eS eS))) a0, (eL (eL eI)) a1]) (n_over_arrows a0 a1) (eT3 eI eI eS) := rvk_fn (t := t_over_arrows_k) (by simp only [belows, RF.b, Bool.and_self]) (gv_new (e := (eT3 eI eI eS)) (gv_wpS (gv_fort (ea := (eT2 eI (eV (eT2 eS eS)))) (A := (fun v4 : (List (Int × Int × W)) => ([some ((eV (eV (eT2 eS eS))) a0), some ((eL (eL eI)) a1), some (.ref 0), none, none, none, none, none], [.lst (List.map (eT3 eI eI eS) v4)]))) (s0 := ([] : List (Int × Int × W))) (iv_enumVt (ev_var (ea := (eV (eV (eT2 eS eS)))) (a := a0) rfl)) rfl (fun v3 v4 => ⟨_, rfl, gv_endS (gv_last (gv_wpS (gv_for (ea := eS) (A := (fun v8 : (List (Int × Int × W)) => ([some ((eV (eV (eT2 eS eS))) a0), some ((eL (eL eI)) a1), some (.ref 0), some (eI v3.1), some ((eV (eT2 eS eS)) v3.2), none, none, none], [.lst (List.map (eT3 eI eI eS) v8)]))) (s0 := v4) (iv_L (ev_call2t x_things_in (ev_var (ea := (eV (eT2 eS eS))) (a := v3.2) rfl) (ev_c (ea := eS) (a := w_mark) rfl))) rfl (fun v7 v8 => ⟨_, rfl, gv_endS (gv_set (ev_lc (ea := eI) (ec := eI) (iv_L (ev_call3t x_markers (ev_var (ea := (eV (eV (eT2 eS eS)))) (a := a0) rfl) (ev_var (ea := eI) (a := v3.1) rfl) (ev_var (ea := eS) (a := v7) rfl))) (fun _ => rfl) (fun v9 => (tv_val (ev_2 (f := fun (x : Int) (y : Int) => RR.ok (decide (x < y))) o_lt (ev_2 (f := fun (x : (List Int)) (y : Int) => (RR.ofO (atI x y))) (o_itL (e := eI)) (ev_2p (f := fun (x : (List (List Int))) (y : Int) => (RR.ofO (atI x y))) (o_itL (e := (eL eI))) (ev_var (ea := (eL (eL eI))) (a := a1) rfl) (ev_var (ea := eI) (a := v3.1) rfl)) (ev_1t (g := fun (x : Int) => -x) o_negI (ev_c (ea := eI) (a := 1) rfl))) (ev_2 (f := fun (x : (List Int)) (y : Int) => (RR.ofO (atI x y))) (o_itL (e := eI)) (ev_2p (f := fun (x : (List (List Int))) (y : Int) => (RR.ofO (atI x y))) (o_itL (e := (eL eI))) (ev_var (ea := (eL (eL eI))) (a := a1) rfl) (ev_var (ea := eI) (a := v9) rfl)) (ev_1t (g := fun (x : Int) => -x) o_negI (ev_c (ea := eI) (a := 1) rfl)))))) (fun v9 => (ev_var (ea := eI) (a := v9) rfl))) (fun v17 => (gv_last (gv_ext (e := (eT3 eI eI eS)) (xs := v8) rfl rfl (ev_lcy (ea := eI) (ec := (eT3 eI eI eS)) (iv_L (ev_var (ea := (eL eI)) (a := v17) rfl)) (fun _ => rfl) (fun v19 => (ev_t3t (ev_var (ea := eI) (a := v3.1) rfl) (ev_var (ea := eI) (a := v19) rfl) (ev_c (ea := eS) (a := w_over) rfl)))) (fun v20 => (gv_nil ⟨_, _, .inl rfl, rfl⟩))))))⟩) (fun v21 => (gv_nil ⟨_, _, .inl rfl, rfl⟩)))))⟩) (fun v23 => (gv_last (gv_retRef (e := (eT3 eI eI eS)) rfl rfl))))))
def n_arrows_in (a0 : (List (List (W × W)))) (a1 : (List W)) (a2 : (List (List Int))) : RR (List (Int × Int × W)) := RR.san (RR.bnd (RR.nox (n_over_arrows a0 a2)) fun v1 => (RR.bnd (n_seen_in a0 a1 a2) fun v9 => RR.bnd (foldR (fun v2 v3 => (RR.bnd (n_look_arrows a0 a2 v2) fun v4 => (if v3.length + v4.length ≤ sizeLine then .ok (v3 ++ v4) else .stuck))) v9 v1) fun v5 => (RR.bnd (RR.bnd (.ok v5) fun v7 => RR.bnd (duR (fun v6 => (.ok true)) (fun v6 => (.ok v6)) v7 []) fitR) fun v8 => (sortF (ltP ltI (ltP ltI ltS)) v8))))
theorem x_arrows_in (a0 : (List (List (W × W)))) (a1 : (List W)) (a2 : (List (List Int))) : RV (p_arrows_in [(eV (eV (eT2 eS eS))) a0, (eV eS) a1, (eL (eL eI)) a2]) (n_arrows_in a0 a1 a2) (eL (eT3 eI eI eS)) := rv_fn (t := t_arrows_in) (by simp only [belows, RF.b, Bool.and_self]) (gv_newCall (e := (eT3 eI eI eS)) (ae_cons (ev_var (ea := (eV (eV (eT2 eS eS)))) (a := a0) rfl) (ae_cons (ev_var (ea := (eL (eL eI))) (a := a2) rfl) ae_nil)) (xk_over_arrows a0 a2) (fun v1 => (gv_wpS (gv_for (ea := (eT3 eI eI (eO eI))) (A := (fun v3 : (List (Int × Int × W)) => ([some ((eV (eV (eT2 eS eS))) a0), some ((eV eS) a1), some ((eL (eL eI)) a2), some (.ref 0), none, none], [.lst (List.map (eT3 eI eI eS) v3)]))) (s0 := v1) (iv_L (ev_call3t x_seen_in (ev_var (ea := (eV (eV (eT2 eS eS)))) (a := a0) rfl) (ev_var (ea := (eV eS)) (a := a1) rfl) (ev_var (ea := (eL (eL eI))) (a := a2) rfl))) rfl (fun v2 v3 => ⟨_, rfl, gv_endS (gv_last (gv_ext (e := (eT3 eI eI eS)) (xs := v3) rfl rfl (ev_call3t x_look_arrows (ev_var (ea := (eV (eV (eT2 eS eS)))) (a := a0) rfl) (ev_var (ea := (eL (eL eI))) (a := a2) rfl) (ev_var (ea := (eT3 eI eI (eO eI))) (a := v2) rfl)) (fun v4 => (gv_nil ⟨_, _, .inl rfl, rfl⟩))))⟩) (fun v5 => (gv_last (gv_frzS (e := (eT3 eI eI eS)) (xs := v5) rfl rfl (gv_retp (ev_n1 (f := fun (x : (List (Int × Int × W))) => (sortF (ltP ltI (ltP ltI ltS)) x)) (o_sortL (e := (eT3 eI eI eS))) (ev_dlist (ea := (eT3 eI eI eS)) (ec := (eT3 eI eI eS)) (o := (.ok v5)) (iv_L (ev_var (ea := (eL (eT3 eI eI eS))) (a := v5) rfl)) (fun _ => rfl) (fun v6 => tv_yes) (fun v6 => (ev_var (ea := (eT3 eI eI eS)) (a := v6) rfl)) (fun _ => rfl)))))))))))
def n_arrows (a0 : (List (List (W × W)))) (a1 : (List W)) (a2 : (List Int)) : RR (List (Int × Int × W)) := RR.san (RR.bnd (n_need_all a0 a1 a2) fun v5 => (RR.bnd (RR.bnd (.ok a0) fun v1 => RR.bnd (.ok a1) fun v2 => RR.bnd (n_times_of a0 a2) fun v3 => n_arrows_in v1 v2 v3) fun v4 => RR.ok v4))
theorem x_arrows (a0 : (List (List (W × W)))) (a1 : (List W)) (a2 : (List Int)) : RV (p_arrows [(eV (eV (eT2 eS eS))) a0, (eV eS) a1, (eV eI) a2]) (n_arrows a0 a1 a2) (eV (eT3 eI eI eS)) := rv_fn (t := t_arrows) (by simp only [belows, RF.b, Bool.and_self]) (gv_expr (ev_call3t x_need_all (ev_var (ea := (eV (eV (eT2 eS eS)))) (a := a0) rfl) (ev_var (ea := (eV eS)) (a := a1) rfl) (ev_var (ea := (eV eI)) (a := a2) rfl)) (fun v5 => (gv_last (gv_retp (ev_n1 (f := fun (x : (List (Int × Int × W))) => RR.ok x) (o_tupleL (e := (eT3 eI eI eS))) (ev_call3 x_arrows_in (ev_var (ea := (eV (eV (eT2 eS eS)))) (a := a0) rfl) (ev_var (ea := (eV eS)) (a := a1) rfl) (ev_call2t x_times_of (ev_var (ea := (eV (eV (eT2 eS eS)))) (a := a0) rfl) (ev_var (ea := (eV eI)) (a := a2) rfl))))))))
def n_l_is_over (a0 : (List (List (W × W)))) (a1 : (List (List Int))) (a2 : Int) (a3 : Int) : RR Bool := RR.san (RR.bnd (RR.bnd (RR.ofO (atI a0 a2)) fun v5 => RR.bnd (lcR (fun v1 => (RR.bnd (.ok (eqB v1.1 w_mark)) fun v4 => if v4 = true then (RR.bnd (RR.ofO (atI a0 a3)) fun v2 => RR.bnd (.ok v1.2) fun v3 => n_l_marks v2 v3) else .ok false)) (fun v1 => (.ok v1.2)) v5) fitR) fun v6 => (RR.bnd (.ok (!eqB v6 ([] : (List W)))) fun v13 => if v13 = true then (RR.bnd (RR.bnd (RR.ofO (atI a1 a2)) fun v7 => RR.bnd (.ok (-(1 : Int))) fun v8 => (RR.ofO (atI v7 v8))) fun v11 => RR.bnd (RR.bnd (RR.ofO (atI a1 a3)) fun v9 => RR.bnd (.ok (-(1 : Int))) fun v10 => (RR.ofO (atI v9 v10))) fun v12 => RR.ok (decide (v11 < v12))) else .ok false))
theorem x_l_is_over (a0 : (List (List (W × W)))) (a1 : (List (List Int))) (a2 : Int) (a3 : Int) : RV (p_l_is_over [(eV (eV (eT2 eS eS))) a0, (eL (eL eI)) a1, eI a2, eI a3]) (n_l_is_over a0 a1 a2 a3) eB := rv_fn (t := t_l_is_over) (by simp only [belows, RF.b, Bool.and_self]) (gv_set (ev_lc (ea := (eT2 eS eS)) (ec := eS) (iv_V (ev_2p (f := fun (x : (List (List (W × W)))) (y : Int) => (RR.ofO (atI x y))) (o_itV (e := (eV (eT2 eS eS)))) (ev_var (ea := (eV (eV (eT2 eS eS)))) (a := a0) rfl) (ev_var (ea := eI) (a := a2) rfl))) (fun _ => rfl) (fun v1 => (tv_and (tv_val (ev_2t (g := fun (x : W) (y : W) => (eqB x y)) (o_eq (e := eS)) (ev_var (ea := eS) (a := v1.1) rfl) (ev_c (ea := eS) (a := w_mark) rfl))) (tv_val (ev_call2 x_l_marks (ev_2p (f := fun (x : (List (List (W × W)))) (y : Int) => (RR.ofO (atI x y))) (o_itV (e := (eV (eT2 eS eS)))) (ev_var (ea := (eV (eV (eT2 eS eS)))) (a := a0) rfl) (ev_var (ea := eI) (a := a3) rfl)) (ev_var (ea := eS) (a := v1.2) rfl))))) (fun v1 => (ev_var (ea := eS) (a := v1.2) rfl))) (fun v6 => (gv_last (gv_retp (ev_and (ev_2t (g := fun (x : (List W)) (y : (List W)) => (!eqB x y)) (o_ne (e := (eL eS))) (ev_var (ea := (eL eS)) (a := v6) rfl) (ev_ll0 (e := eS))) (ev_2 (f := fun (x : Int) (y : Int) => RR.ok (decide (x < y))) o_lt (ev_2 (f := fun (x : (List Int)) (y : Int) => (RR.ofO (atI x y))) (o_itL (e := eI)) (ev_2p (f := fun (x : (List (List Int))) (y : Int) => (RR.ofO (atI x y))) (o_itL (e := (eL eI))) (ev_var (ea := (eL (eL eI))) (a := a1) rfl) (ev_var (ea := eI) (a := a2) rfl)) (ev_1t (g := fun (x : Int) => -x) o_negI (ev_c (ea := eI) (a := 1) rfl))) (ev_2 (f := fun (x : (List Int)) (y : Int) => (RR.ofO (atI x y))) (o_itL (e := eI)) (ev_2p (f := fun (x : (List (List Int))) (y : Int) => (RR.ofO (atI x y))) (o_itL (e := (eL eI))) (ev_var (ea := (eL (eL eI))) (a := a1) rfl) (ev_var (ea := eI) (a := a3) rfl)) (ev_1t (g := fun (x : Int) => -x) o_negI (ev_c (ea := eI) (a := 1) rfl)))))))))
def n_l_is_shown (a0 : (List (List (W × W)))) (a1 : (List W)) (a2 : (List (List Int))) (a3 : Int) (a4 : Int) : RR Bool := RR.san (RR.bnd (RR.bnd (RR.ofO (atI a0 a4)) fun v2 => n_l_looks v2) fun v33 => RR.bnd (forR (fun v3 v4 => (RR.bnd (RR.bnd (RR.ofO (atI a0 a3)) fun v8 => RR.bnd (RR.bnd (RR.bnd (RR.ofO (atI a0 a4)) fun v5 => RR.bnd (.ok v3) fun v6 => (RR.ofO (atI v5 v6))) fun v7 => .ok v7.2) fun v9 => n_l_marks v8 v9) fun v31 => if v31 = true then (RR.bnd (n_l_sight a0 a1 a2 a4 v3) fun v20 => (RR.bnd (RR.bnd (.ok (Option.isSome v20)) fun v29 => if v29 = true then (RR.bnd (RR.bnd (RR.bnd (.ok a2) fun v21 => RR.bnd (unO v20) fun v22 => (RR.ofO (atI v21 v22))) fun v23 => RR.bnd (.ok (-(1 : Int))) fun v24 => (RR.ofO (atI v23 v24))) fun v27 => RR.bnd (RR.bnd (RR.ofO (atI a2 a3)) fun v25 => RR.bnd (.ok (-(1 : Int))) fun v26 => (RR.ofO (atI v25 v26))) fun v28 => RR.ok (decide (v28 ≤ v27))) else .ok false) fun v30 => if v30 = true then .ok (.rt true) else .ok (.nx ()))) else .ok (.nx ()))) v33 ()) (forK (fun v32 => .ok false) (fun v => v)))
theorem x_l_is_shown (a0 : (List (List (W × W)))) (a1 : (List W)) (a2 : (List (List Int))) (a3 : Int) (a4 : Int) : RV (p_l_is_shown [(eV (eV (eT2 eS eS))) a0, (eV eS) a1, (eL (eL eI)) a2, eI a3, eI a4]) (n_l_is_shown a0 a1 a2 a3 a4) eB := rv_fn (t := t_l_is_shown) (by simp only [belows, RF.b, Bool.and_self]) (gv_wpS (gv_forB (ea := eI) (A := (fun v4 : Unit => ([some ((eV (eV (eT2 eS eS))) a0), some ((eV eS) a1), some ((eL (eL eI)) a2), some (eI a3), some (eI a4), none, none], []))) (s0 := ()) (ρ := Bool) (er := eB) (iv_L (ev_call1 x_l_looks (ev_2p (f := fun (x : (List (List (W × W)))) (y : Int) => (RR.ofO (atI x y))) (o_itV (e := (eV (eT2 eS eS)))) (ev_var (ea := (eV (eV (eT2 eS eS)))) (a := a0) rfl) (ev_var (ea := eI) (a := a4) rfl)))) rfl (fun v3 v4 => ⟨_, rfl, gv_endB (gv_last (gv_if (tv_val (ev_call2 x_l_marks (ev_2p (f := fun (x : (List (List (W × W)))) (y : Int) => (RR.ofO (atI x y))) (o_itV (e := (eV (eT2 eS eS)))) (ev_var (ea := (eV (eV (eT2 eS eS)))) (a := a0) rfl) (ev_var (ea := eI) (a := a3) rfl)) (ev_at (ea := (eT2 eS eS)) (ec := eS) (g := fun p => p.2) (ev_2 (f := fun (x : (List (W × W))) (y : Int) => (RR.ofO (atI x y))) (o_itV (e := (eT2 eS eS))) (ev_2p (f := fun (x : (List (List (W × W)))) (y : Int) => (RR.ofO (atI x y))) (o_itV (e := (eV (eT2 eS eS)))) (ev_var (ea := (eV (eV (eT2 eS eS)))) (a := a0) rfl) (ev_var (ea := eI) (a := a4) rfl)) (ev_var (ea := eI) (a := v3) rfl)) fun _ _ => rfl))) (gv_assoc (gv_set (ev_call5t x_l_sight (ev_var (ea := (eV (eV (eT2 eS eS)))) (a := a0) rfl) (ev_var (ea := (eV eS)) (a := a1) rfl) (ev_var (ea := (eL (eL eI))) (a := a2) rfl) (ev_var (ea := eI) (a := a4) rfl) (ev_var (ea := eI) (a := v3) rfl)) (fun v20 => (gv_if (tv_and (tv_val (ev_2t (g := fun (x : (Option Int)) (y : Unit) => (Option.isSome x)) (o_notN (e := eI)) (ev_var (ea := (eO eI)) (a := v20) rfl) (ev_c (ea := eN) (a := ()) rfl))) (tv_val (ev_2 (f := fun (x : Int) (y : Int) => RR.ok (decide (y ≤ x))) o_ge (ev_2 (f := fun (x : (List Int)) (y : Int) => (RR.ofO (atI x y))) (o_itL (e := eI)) (ev_2 (f := fun (x : (List (List Int))) (y : Int) => (RR.ofO (atI x y))) (o_itL (e := (eL eI))) (ev_var (ea := (eL (eL eI))) (a := a2) rfl) (ev_unt (ev_var (ea := (eO eI)) (a := v20) rfl))) (ev_1t (g := fun (x : Int) => -x) o_negI (ev_c (ea := eI) (a := 1) rfl))) (ev_2 (f := fun (x : (List Int)) (y : Int) => (RR.ofO (atI x y))) (o_itL (e := eI)) (ev_2p (f := fun (x : (List (List Int))) (y : Int) => (RR.ofO (atI x y))) (o_itL (e := (eL eI))) (ev_var (ea := (eL (eL eI))) (a := a2) rfl) (ev_var (ea := eI) (a := a3) rfl)) (ev_1t (g := fun (x : Int) => -x) o_negI (ev_c (ea := eI) (a := 1) rfl)))))) (gv_rett (ev_c (ea := eB) (a := true) rfl) ⟨_, rfl⟩) (gv_skip (gv_nil ⟨_, _, rfl, rfl⟩)))))) (gv_skip (gv_nil ⟨_, _, rfl, rfl⟩))))⟩) (fun v32 => (gv_last (gv_rett (ev_c (ea := eB) (a := false) rfl) jf_rt))) (g := (fun v => v)) (fun _ _ => jf_rt)))
def n_l_is_missed (a0 : (List (List (W × W)))) (a1 : (List W)) (a2 : (List (List Int))) (a3 : Int) (a4 : Int) : RR Bool := RR.san (RR.bnd (RR.bnd (RR.ofO (atI a0 a3)) fun v2 => n_l_looks v2) fun v33 => RR.bnd (forR (fun v3 v4 => (RR.bnd (RR.bnd (RR.ofO (atI a0 a4)) fun v8 => RR.bnd (RR.bnd (RR.bnd (RR.ofO (atI a0 a3)) fun v5 => RR.bnd (.ok v3) fun v6 => (RR.ofO (atI v5 v6))) fun v7 => .ok v7.2) fun v9 => n_l_marks v8 v9) fun v31 => if v31 = true then (RR.bnd (n_l_sight a0 a1 a2 a3 v3) fun v20 => (RR.bnd (RR.bnd (.ok (Option.isNone v20)) fun v29 => if v29 = true then .ok true else (RR.bnd (RR.bnd (RR.bnd (.ok a2) fun v21 => RR.bnd (unO v20) fun v22 => (RR.ofO (atI v21 v22))) fun v23 => RR.bnd (.ok (-(1 : Int))) fun v24 => (RR.ofO (atI v23 v24))) fun v27 => RR.bnd (RR.bnd (RR.ofO (atI a2 a4)) fun v25 => RR.bnd (.ok (-(1 : Int))) fun v26 => (RR.ofO (atI v25 v26))) fun v28 => RR.ok (decide (v27 < v28)))) fun v30 => if v30 = true then .ok (.rt true) else .ok (.nx ()))) else .ok (.nx ()))) v33 ()) (forK (fun v32 => .ok false) (fun v => v)))
theorem x_l_is_missed (a0 : (List (List (W × W)))) (a1 : (List W)) (a2 : (List (List Int))) (a3 : Int) (a4 : Int) : RV (p_l_is_missed [(eV (eV (eT2 eS eS))) a0, (eV eS) a1, (eL (eL eI)) a2, eI a3, eI a4]) (n_l_is_missed a0 a1 a2 a3 a4) eB := rv_fn (t := t_l_is_missed) (by simp only [belows, RF.b, Bool.and_self]) (gv_wpS (gv_forB (ea := eI) (A := (fun v4 : Unit => ([some ((eV (eV (eT2 eS eS))) a0), some ((eV eS) a1), some ((eL (eL eI)) a2), some (eI a3), some (eI a4), none, none], []))) (s0 := ()) (ρ := Bool) (er := eB) (iv_L (ev_call1 x_l_looks (ev_2p (f := fun (x : (List (List (W × W)))) (y : Int) => (RR.ofO (atI x y))) (o_itV (e := (eV (eT2 eS eS)))) (ev_var (ea := (eV (eV (eT2 eS eS)))) (a := a0) rfl) (ev_var (ea := eI) (a := a3) rfl)))) rfl (fun v3 v4 => ⟨_, rfl, gv_endB (gv_last (gv_if (tv_val (ev_call2 x_l_marks (ev_2p (f := fun (x : (List (List (W × W)))) (y : Int) => (RR.ofO (atI x y))) (o_itV (e := (eV (eT2 eS eS)))) (ev_var (ea := (eV (eV (eT2 eS eS)))) (a := a0) rfl) (ev_var (ea := eI) (a := a4) rfl)) (ev_at (ea := (eT2 eS eS)) (ec := eS) (g := fun p => p.2) (ev_2 (f := fun (x : (List (W × W))) (y : Int) => (RR.ofO (atI x y))) (o_itV (e := (eT2 eS eS))) (ev_2p (f := fun (x : (List (List (W × W)))) (y : Int) => (RR.ofO (atI x y))) (o_itV (e := (eV (eT2 eS eS)))) (ev_var (ea := (eV (eV (eT2 eS eS)))) (a := a0) rfl) (ev_var (ea := eI) (a := a3) rfl)) (ev_var (ea := eI) (a := v3) rfl)) fun _ _ => rfl))) (gv_assoc (gv_set (ev_call5t x_l_sight (ev_var (ea := (eV (eV (eT2 eS eS)))) (a := a0) rfl) (ev_var (ea := (eV eS)) (a := a1) rfl) (ev_var (ea := (eL (eL eI))) (a := a2) rfl) (ev_var (ea := eI) (a := a3) rfl) (ev_var (ea := eI) (a := v3) rfl)) (fun v20 => (gv_if (tv_or (tv_val (ev_2t (g := fun (x : (Option Int)) (y : Unit) => (Option.isNone x)) (o_isN (e := eI)) (ev_var (ea := (eO eI)) (a := v20) rfl) (ev_c (ea := eN) (a := ()) rfl))) (tv_val (ev_2 (f := fun (x : Int) (y : Int) => RR.ok (decide (x < y))) o_lt (ev_2 (f := fun (x : (List Int)) (y : Int) => (RR.ofO (atI x y))) (o_itL (e := eI)) (ev_2 (f := fun (x : (List (List Int))) (y : Int) => (RR.ofO (atI x y))) (o_itL (e := (eL eI))) (ev_var (ea := (eL (eL eI))) (a := a2) rfl) (ev_unt (ev_var (ea := (eO eI)) (a := v20) rfl))) (ev_1t (g := fun (x : Int) => -x) o_negI (ev_c (ea := eI) (a := 1) rfl))) (ev_2 (f := fun (x : (List Int)) (y : Int) => (RR.ofO (atI x y))) (o_itL (e := eI)) (ev_2p (f := fun (x : (List (List Int))) (y : Int) => (RR.ofO (atI x y))) (o_itL (e := (eL eI))) (ev_var (ea := (eL (eL eI))) (a := a2) rfl) (ev_var (ea := eI) (a := a4) rfl)) (ev_1t (g := fun (x : Int) => -x) o_negI (ev_c (ea := eI) (a := 1) rfl)))))) (gv_rett (ev_c (ea := eB) (a := true) rfl) ⟨_, rfl⟩) (gv_skip (gv_nil ⟨_, _, rfl, rfl⟩)))))) (gv_skip (gv_nil ⟨_, _, rfl, rfl⟩))))⟩) (fun v32 => (gv_last (gv_rett (ev_c (ea := eB) (a := false) rfl) jf_rt))) (g := (fun v => v)) (fun _ _ => jf_rt)))
def n_l_arrows (a0 : (List (List (W × W)))) (a1 : (List W)) (a2 : (List (List Int))) : RR (List (Int × Int × W)) := RR.san (RR.bnd (rng1R (a0.length : Int)) fun v20 => RR.bnd (foldR (fun v2 v3 => (RR.bnd (RR.bnd (rng1R (a0.length : Int)) fun v7 => fitR (List.map (fun v6 => v6) (List.filter (fun v6 => (!eqB v6 v2)) v7))) fun v18 => RR.bnd (foldR (fun v8 v9 => (RR.bnd (n_l_is_missed a0 a1 a2 v2 v8) fun v16 => if v16 = true then (if v9.length < sizeLine then (RR.bnd (n_l_is_over a0 a2 v2 v8) fun v12 => if v12 = true then (if (v9 ++ [(v2, v8, w_missed)]).length < sizeLine then (RR.bnd (n_l_is_shown a0 a1 a2 v2 v8) fun v10 => if v10 = true then (if ((v9 ++ [(v2, v8, w_missed)]) ++ [(v2, v8, w_over)]).length < sizeLine then .ok (((v9 ++ [(v2, v8, w_missed)]) ++ [(v2, v8, w_over)]) ++ [(v2, v8, w_shown)]) else .stuck) else .ok ((v9 ++ [(v2, v8, w_missed)]) ++ [(v2, v8, w_over)])) else .stuck) else (RR.bnd (n_l_is_shown a0 a1 a2 v2 v8) fun v11 => if v11 = true then (if (v9 ++ [(v2, v8, w_missed)]).length < sizeLine then .ok ((v9 ++ [(v2, v8, w_missed)]) ++ [(v2, v8, w_shown)]) else .stuck) else .ok (v9 ++ [(v2, v8, w_missed)]))) else .stuck) else (RR.bnd (n_l_is_over a0 a2 v2 v8) fun v15 => if v15 = true then (if v9.length < sizeLine then (RR.bnd (n_l_is_shown a0 a1 a2 v2 v8) fun v13 => if v13 = true then (if (v9 ++ [(v2, v8, w_over)]).length < sizeLine then .ok ((v9 ++ [(v2, v8, w_over)]) ++ [(v2, v8, w_shown)]) else .stuck) else .ok (v9 ++ [(v2, v8, w_over)])) else .stuck) else (RR.bnd (n_l_is_shown a0 a1 a2 v2 v8) fun v14 => if v14 = true then (if v9.length < sizeLine then .ok (v9 ++ [(v2, v8, w_shown)]) else .stuck) else .ok v9)))) v18 v3) fun v17 => .ok v17)) v20 ([] : List (Int × Int × W))) fun v19 => .ok v19)
theorem x_l_arrows (a0 : (List (List (W × W)))) (a1 : (List W)) (a2 : (List (List Int))) : RV (p_l_arrows [(eV (eV (eT2 eS eS))) a0, (eV eS) a1, (eL (eL eI)) a2]) (n_l_arrows a0 a1 a2) (eL (eT3 eI eI eS)) := rv_fn (t := t_l_arrows) (by simp only [belows, RF.b, Bool.and_self]) (gv_new (e := (eT3 eI eI eS)) (gv_wpS (gv_for (ea := eI) (A := (fun v3 : (List (Int × Int × W)) => ([some ((eV (eV (eT2 eS eS))) a0), some ((eV eS) a1), some ((eL (eL eI)) a2), some (.ref 0), none, none, none], [.lst (List.map (eT3 eI eI eS) v3)]))) (s0 := ([] : List (Int × Int × W))) (iv_range1t (ev_n1t (g := fun (x : (List (List (W × W)))) => (x.length : Int)) (o_lenV (e := (eV (eT2 eS eS)))) (ev_var (ea := (eV (eV (eT2 eS eS)))) (a := a0) rfl))) rfl (fun v2 v3 => ⟨_, rfl, gv_endS (gv_last (gv_wpS (gv_for (ea := eI) (A := (fun v9 : (List (Int × Int × W)) => ([some ((eV (eV (eT2 eS eS))) a0), some ((eV eS) a1), some ((eL (eL eI)) a2), some (.ref 0), some (eI v2), none, none], [.lst (List.map (eT3 eI eI eS) v9)]))) (s0 := v3) (iv_L (ev_lcp (ea := eI) (ec := eI) (iv_range1t (ev_n1t (g := fun (x : (List (List (W × W)))) => (x.length : Int)) (o_lenV (e := (eV (eT2 eS eS)))) (ev_var (ea := (eV (eV (eT2 eS eS)))) (a := a0) rfl))) (fun _ => rfl) (fun v6 => (tv_val (ev_2t (g := fun (x : Int) (y : Int) => (!eqB x y)) (o_ne (e := eI)) (ev_var (ea := eI) (a := v6) rfl) (ev_var (ea := eI) (a := v2) rfl)))) (fun v6 => (ev_var (ea := eI) (a := v6) rfl)))) rfl (fun v8 v9 => ⟨_, rfl, gv_endS (gv_if (tv_val (ev_call5t x_l_is_missed (ev_var (ea := (eV (eV (eT2 eS eS)))) (a := a0) rfl) (ev_var (ea := (eV eS)) (a := a1) rfl) (ev_var (ea := (eL (eL eI))) (a := a2) rfl) (ev_var (ea := eI) (a := v2) rfl) (ev_var (ea := eI) (a := v8) rfl))) (gv_appt (e := (eT3 eI eI eS)) (xs := v9) rfl rfl (ev_t3t (ev_var (ea := eI) (a := v2) rfl) (ev_var (ea := eI) (a := v8) rfl) (ev_c (ea := eS) (a := w_missed) rfl)) (gv_if (tv_val (ev_call4t x_l_is_over (ev_var (ea := (eV (eV (eT2 eS eS)))) (a := a0) rfl) (ev_var (ea := (eL (eL eI))) (a := a2) rfl) (ev_var (ea := eI) (a := v2) rfl) (ev_var (ea := eI) (a := v8) rfl))) (gv_appt (e := (eT3 eI eI eS)) (xs := (v9 ++ [(v2, v8, w_missed)])) rfl rfl (ev_t3t (ev_var (ea := eI) (a := v2) rfl) (ev_var (ea := eI) (a := v8) rfl) (ev_c (ea := eS) (a := w_over) rfl)) (gv_last (gv_if (tv_val (ev_call5t x_l_is_shown (ev_var (ea := (eV (eV (eT2 eS eS)))) (a := a0) rfl) (ev_var (ea := (eV eS)) (a := a1) rfl) (ev_var (ea := (eL (eL eI))) (a := a2) rfl) (ev_var (ea := eI) (a := v2) rfl) (ev_var (ea := eI) (a := v8) rfl))) (gv_appt (e := (eT3 eI eI eS)) (xs := ((v9 ++ [(v2, v8, w_missed)]) ++ [(v2, v8, w_over)])) rfl rfl (ev_t3t (ev_var (ea := eI) (a := v2) rfl) (ev_var (ea := eI) (a := v8) rfl) (ev_c (ea := eS) (a := w_shown) rfl)) (gv_nil ⟨_, _, .inl rfl, rfl⟩)) (gv_skip (gv_nil ⟨_, _, .inl rfl, rfl⟩))))) (gv_skip (gv_last (gv_if (tv_val (ev_call5t x_l_is_shown (ev_var (ea := (eV (eV (eT2 eS eS)))) (a := a0) rfl) (ev_var (ea := (eV eS)) (a := a1) rfl) (ev_var (ea := (eL (eL eI))) (a := a2) rfl) (ev_var (ea := eI) (a := v2) rfl) (ev_var (ea := eI) (a := v8) rfl))) (gv_appt (e := (eT3 eI eI eS)) (xs := (v9 ++ [(v2, v8, w_missed)])) rfl rfl (ev_t3t (ev_var (ea := eI) (a := v2) rfl) (ev_var (ea := eI) (a := v8) rfl) (ev_c (ea := eS) (a := w_shown) rfl)) (gv_nil ⟨_, _, .inl rfl, rfl⟩)) (gv_skip (gv_nil ⟨_, _, .inl rfl, rfl⟩))))))) (gv_skip (gv_if (tv_val (ev_call4t x_l_is_over (ev_var (ea := (eV (eV (eT2 eS eS)))) (a := a0) rfl) (ev_var (ea := (eL (eL eI))) (a := a2) rfl) (ev_var (ea := eI) (a := v2) rfl) (ev_var (ea := eI) (a := v8) rfl))) (gv_appt (e := (eT3 eI eI eS)) (xs := v9) rfl rfl (ev_t3t (ev_var (ea := eI) (a := v2) rfl) (ev_var (ea := eI) (a := v8) rfl) (ev_c (ea := eS) (a := w_over) rfl)) (gv_last (gv_if (tv_val (ev_call5t x_l_is_shown (ev_var (ea := (eV (eV (eT2 eS eS)))) (a := a0) rfl) (ev_var (ea := (eV eS)) (a := a1) rfl) (ev_var (ea := (eL (eL eI))) (a := a2) rfl) (ev_var (ea := eI) (a := v2) rfl) (ev_var (ea := eI) (a := v8) rfl))) (gv_appt (e := (eT3 eI eI eS)) (xs := (v9 ++ [(v2, v8, w_over)])) rfl rfl (ev_t3t (ev_var (ea := eI) (a := v2) rfl) (ev_var (ea := eI) (a := v8) rfl) (ev_c (ea := eS) (a := w_shown) rfl)) (gv_nil ⟨_, _, .inl rfl, rfl⟩)) (gv_skip (gv_nil ⟨_, _, .inl rfl, rfl⟩))))) (gv_skip (gv_last (gv_if (tv_val (ev_call5t x_l_is_shown (ev_var (ea := (eV (eV (eT2 eS eS)))) (a := a0) rfl) (ev_var (ea := (eV eS)) (a := a1) rfl) (ev_var (ea := (eL (eL eI))) (a := a2) rfl) (ev_var (ea := eI) (a := v2) rfl) (ev_var (ea := eI) (a := v8) rfl))) (gv_appt (e := (eT3 eI eI eS)) (xs := v9) rfl rfl (ev_t3t (ev_var (ea := eI) (a := v2) rfl) (ev_var (ea := eI) (a := v8) rfl) (ev_c (ea := eS) (a := w_shown) rfl)) (gv_nil ⟨_, _, .inl rfl, rfl⟩)) (gv_skip (gv_nil ⟨_, _, .inl rfl, rfl⟩))))))))⟩) (fun v17 => (gv_nil ⟨_, _, .inl rfl, rfl⟩)))))⟩) (fun v19 => (gv_last (gv_frzS (e := (eT3 eI eI eS)) (xs := v19) rfl rfl (gv_rett (ev_var (ea := (eL (eT3 eI eI eS))) (a := v19) rfl) jf_rt)))))))
def n_pairs_in (a0 : (List (List (W × W)))) (a1 : (List W)) (a2 : (List Int)) : RR (List (Int × Int)) := RR.san (RR.bnd (RR.bnd (.ok a0) fun v1 => RR.bnd (.ok a1) fun v2 => RR.bnd (n_times_of a0 a2) fun v3 => n_arrows_in v1 v2 v3) fun v5 => fitR (List.map (fun v4 => (v4.1, v4.2.1)) v5))
theorem x_pairs_in (a0 : (List (List (W × W)))) (a1 : (List W)) (a2 : (List Int)) : RV (p_pairs_in [(eV (eV (eT2 eS eS))) a0, (eV eS) a1, (eV eI) a2]) (n_pairs_in a0 a1 a2) (eL (eT2 eI eI)) := rv_fn (t := t_pairs_in) (by simp only [belows, RF.b, Bool.and_self]) (gv_last (gv_retp (ev_lcpy (ea := (eT3 eI eI eS)) (ec := (eT2 eI eI)) (iv_L (ev_call3 x_arrows_in (ev_var (ea := (eV (eV (eT2 eS eS)))) (a := a0) rfl) (ev_var (ea := (eV eS)) (a := a1) rfl) (ev_call2t x_times_of (ev_var (ea := (eV (eV (eT2 eS eS)))) (a := a0) rfl) (ev_var (ea := (eV eI)) (a := a2) rfl)))) (fun _ => rfl) (fun v4 => (ev_t2t (ev_var (ea := eI) (a := v4.1) rfl) (ev_var (ea := eI) (a := v4.2.1) rfl))))))
def n_do_overlap (a0 : (List (List Int))) (a1 : Int) (a2 : Int) : RR Bool := RR.san (RR.bnd (RR.bnd (RR.bnd (RR.ofO (atI a0 a1)) fun v1 => RR.bnd (.ok (0 : Int)) fun v2 => (RR.ofO (atI v1 v2))) fun v5 => RR.bnd (RR.bnd (RR.ofO (atI a0 a2)) fun v3 => RR.bnd (.ok (-(1 : Int))) fun v4 => (RR.ofO (atI v3 v4))) fun v6 => RR.ok (decide (v5 < v6))) fun v13 => if v13 = true then (RR.bnd (RR.bnd (RR.ofO (atI a0 a2)) fun v7 => RR.bnd (.ok (0 : Int)) fun v8 => (RR.ofO (atI v7 v8))) fun v11 => RR.bnd (RR.bnd (RR.ofO (atI a0 a1)) fun v9 => RR.bnd (.ok (-(1 : Int))) fun v10 => (RR.ofO (atI v9 v10))) fun v12 => RR.ok (decide (v11 < v12))) else .ok false)
theorem x_do_overlap (a0 : (List (List Int))) (a1 : Int) (a2 : Int) : RV (p_do_overlap [(eL (eL eI)) a0, eI a1, eI a2]) (n_do_overlap a0 a1 a2) eB := rv_fn (t := t_do_overlap) (by simp only [belows, RF.b, Bool.and_self]) (gv_last (gv_retp (ev_and (ev_2 (f := fun (x : Int) (y : Int) => RR.ok (decide (x < y))) o_lt (ev_2 (f := fun (x : (List Int)) (y : Int) => (RR.ofO (atI x y))) (o_itL (e := eI)) (ev_2p (f := fun (x : (List (List Int))) (y : Int) => (RR.ofO (atI x y))) (o_itL (e := (eL eI))) (ev_var (ea := (eL (eL eI))) (a := a0) rfl) (ev_var (ea := eI) (a := a1) rfl)) (ev_c (ea := eI) (a := 0) rfl)) (ev_2 (f := fun (x : (List Int)) (y : Int) => (RR.ofO (atI x y))) (o_itL (e := eI)) (ev_2p (f := fun (x : (List (List Int))) (y : Int) => (RR.ofO (atI x y))) (o_itL (e := (eL eI))) (ev_var (ea := (eL (eL eI))) (a := a0) rfl) (ev_var (ea := eI) (a := a2) rfl)) (ev_1t (g := fun (x : Int) => -x) o_negI (ev_c (ea := eI) (a := 1) rfl)))) (ev_2 (f := fun (x : Int) (y : Int) => RR.ok (decide (x < y))) o_lt (ev_2 (f := fun (x : (List Int)) (y : Int) => (RR.ofO (atI x y))) (o_itL (e := eI)) (ev_2p (f := fun (x : (List (List Int))) (y : Int) => (RR.ofO (atI x y))) (o_itL (e := (eL eI))) (ev_var (ea := (eL (eL eI))) (a := a0) rfl) (ev_var (ea := eI) (a := a2) rfl)) (ev_c (ea := eI) (a := 0) rfl)) (ev_2 (f := fun (x : (List Int)) (y : Int) => (RR.ofO (atI x y))) (o_itL (e := eI)) (ev_2p (f := fun (x : (List (List Int))) (y : Int) => (RR.ofO (atI x y))) (o_itL (e := (eL eI))) (ev_var (ea := (eL (eL eI))) (a := a0) rfl) (ev_var (ea := eI) (a := a1) rfl)) (ev_1t (g := fun (x : Int) => -x) o_negI (ev_c (ea := eI) (a := 1) rfl)))))))
def n_is_pinch (a0 : (List (List Int))) (a1 : Int) (a2 : Int) (a3 : Int) : RR Bool := RR.san (RR.bnd (RR.bnd (RR.bnd (n_do_overlap a0 a1 a2) fun v1 => .ok (!v1)) fun v3 => if v3 = true then .ok true else (RR.bnd (n_do_overlap a0 a2 a3) fun v2 => .ok (!v2))) fun v18 => if v18 = true then .ok false else (RR.bnd (RR.bnd (RR.bnd (RR.ofO (atI a0 a3)) fun v4 => RR.bnd (.ok (-(1 : Int))) fun v5 => (RR.ofO (atI v4 v5))) fun v8 => RR.bnd (RR.bnd (RR.ofO (atI a0 a2)) fun v6 => RR.bnd (.ok (-(1 : Int))) fun v7 => (RR.ofO (atI v6 v7))) fun v9 => RR.ok (decide (v8 < v9))) fun v17 => if v17 = true then (RR.bnd (.ok (eqB a1 a3)) fun v16 => if v16 = true then .ok true else (RR.bnd (RR.bnd (RR.ofO (atI a0 a3)) fun v10 => RR.bnd (.ok (-(1 : Int))) fun v11 => (RR.ofO (atI v10 v11))) fun v14 => RR.bnd (RR.bnd (RR.ofO (atI a0 a1)) fun v12 => RR.bnd (.ok (-(1 : Int))) fun v13 => (RR.ofO (atI v12 v13))) fun v15 => RR.ok (decide (v14 < v15)))) else .ok false))
theorem x_is_pinch (a0 : (List (List Int))) (a1 : Int) (a2 : Int) (a3 : Int) : RV (p_is_pinch [(eL (eL eI)) a0, eI a1, eI a2, eI a3]) (n_is_pinch a0 a1 a2 a3) eB := rv_fn (t := t_is_pinch) (by simp only [belows, RF.b, Bool.and_self]) (gv_if (tv_or (tv_not (tv_val (ev_call3t x_do_overlap (ev_var (ea := (eL (eL eI))) (a := a0) rfl) (ev_var (ea := eI) (a := a1) rfl) (ev_var (ea := eI) (a := a2) rfl)))) (tv_not (tv_val (ev_call3t x_do_overlap (ev_var (ea := (eL (eL eI))) (a := a0) rfl) (ev_var (ea := eI) (a := a2) rfl) (ev_var (ea := eI) (a := a3) rfl))))) (gv_rett (ev_c (ea := eB) (a := false) rfl) jf_rt) (gv_skip (gv_last (gv_retp (ev_and (ev_2 (f := fun (x : Int) (y : Int) => RR.ok (decide (x < y))) o_lt (ev_2 (f := fun (x : (List Int)) (y : Int) => (RR.ofO (atI x y))) (o_itL (e := eI)) (ev_2p (f := fun (x : (List (List Int))) (y : Int) => (RR.ofO (atI x y))) (o_itL (e := (eL eI))) (ev_var (ea := (eL (eL eI))) (a := a0) rfl) (ev_var (ea := eI) (a := a3) rfl)) (ev_1t (g := fun (x : Int) => -x) o_negI (ev_c (ea := eI) (a := 1) rfl))) (ev_2 (f := fun (x : (List Int)) (y : Int) => (RR.ofO (atI x y))) (o_itL (e := eI)) (ev_2p (f := fun (x : (List (List Int))) (y : Int) => (RR.ofO (atI x y))) (o_itL (e := (eL eI))) (ev_var (ea := (eL (eL eI))) (a := a0) rfl) (ev_var (ea := eI) (a := a2) rfl)) (ev_1t (g := fun (x : Int) => -x) o_negI (ev_c (ea := eI) (a := 1) rfl)))) (ev_or (ev_2t (g := fun (x : Int) (y : Int) => (eqB x y)) (o_eq (e := eI)) (ev_var (ea := eI) (a := a1) rfl) (ev_var (ea := eI) (a := a3) rfl)) (ev_2 (f := fun (x : Int) (y : Int) => RR.ok (decide (x < y))) o_lt (ev_2 (f := fun (x : (List Int)) (y : Int) => (RR.ofO (atI x y))) (o_itL (e := eI)) (ev_2p (f := fun (x : (List (List Int))) (y : Int) => (RR.ofO (atI x y))) (o_itL (e := (eL eI))) (ev_var (ea := (eL (eL eI))) (a := a0) rfl) (ev_var (ea := eI) (a := a3) rfl)) (ev_1t (g := fun (x : Int) => -x) o_negI (ev_c (ea := eI) (a := 1) rfl))) (ev_2 (f := fun (x : (List Int)) (y : Int) => (RR.ofO (atI x y))) (o_itL (e := eI)) (ev_2p (f := fun (x : (List (List Int))) (y : Int) => (RR.ofO (atI x y))) (o_itL (e := (eL eI))) (ev_var (ea := (eL (eL eI))) (a := a0) rfl) (ev_var (ea := eI) (a := a1) rfl)) (ev_1t (g := fun (x : Int) => -x) o_negI (ev_c (ea := eI) (a := 1) rfl))))))))))
def n_pinches_in (a0 : (List (List (W × W)))) (a1 : (List W)) (a2 : (List (List Int))) : RR (List (Int × Int × Int)) := RR.san (RR.bnd (RR.bnd (n_arrows_in a0 a1 a2) fun v2 => fitR (List.map (fun v1 => (v1.1, v1.2.1)) (List.filter (fun v1 => (eqB v1.2.2 w_missed)) v2))) fun v3 => (RR.bnd (RR.bnd (lcR (fun v4 => (RR.bnd (RR.bnd (RR.ofO (atI a1 v4.1)) fun v5 => RR.bnd (.ok w_guarded) fun v6 => RR.ok (eqB v5 v6)) fun v9 => if v9 = true then (RR.bnd (RR.ofO (atI a1 v4.2)) fun v7 => RR.bnd (.ok w_guarded) fun v8 => RR.ok (eqB v7 v8)) else .ok false)) (fun v4 => (.ok (v4.1, v4.2))) v3) fitR) fun v10 => (RR.bnd (foldR (fun v11 v12 => (RR.bnd (foldR (fun v13 v14 => (RR.bnd (RR.bnd (.ok (eqB v13.1 v11.2)) fun v15 => if v15 = true then (n_is_pinch a2 v11.1 v11.2 v13.2) else .ok false) fun v16 => if v16 = true then (if v14.length < sizeLine then .ok (v14 ++ [(v11.1, v11.2, v13.2)]) else .stuck) else .ok v14)) v10 v12) fun v17 => .ok v17)) v10 ([] : List (Int × Int × Int))) fun v18 => (sortF (ltP ltI (ltP ltI ltI)) v18))))
theorem x_pinches_in (a0 : (List (List (W × W)))) (a1 : (List W)) (a2 : (List (List Int))) : RV (p_pinches_in [(eV (eV (eT2 eS eS))) a0, (eV eS) a1, (eL (eL eI)) a2]) (n_pinches_in a0 a1 a2) (eL (eT3 eI eI eI)) := rv_fn (t := t_pinches_in) (by simp only [belows, RF.b, Bool.and_self]) (gv_set (ev_lcp (ea := (eT3 eI eI eS)) (ec := (eT2 eI eI)) (iv_L (ev_call3t x_arrows_in (ev_var (ea := (eV (eV (eT2 eS eS)))) (a := a0) rfl) (ev_var (ea := (eV eS)) (a := a1) rfl) (ev_var (ea := (eL (eL eI))) (a := a2) rfl))) (fun _ => rfl) (fun v1 => (tv_val (ev_2t (g := fun (x : W) (y : W) => (eqB x y)) (o_eq (e := eS)) (ev_var (ea := eS) (a := v1.2.2) rfl) (ev_c (ea := eS) (a := w_missed) rfl)))) (fun v1 => (ev_t2t (ev_var (ea := eI) (a := v1.1) rfl) (ev_var (ea := eI) (a := v1.2.1) rfl)))) (fun v3 => (gv_set (ev_lcf (ea := (eT2 eI eI)) (ec := (eT2 eI eI)) (iv_L (ev_var (ea := (eL (eT2 eI eI))) (a := v3) rfl)) (fun _ => rfl) (fun v4 => (tv_and (tv_val (ev_2 (f := fun (x : W) (y : W) => RR.ok (eqB x y)) (o_eq (e := eS)) (ev_2p (f := fun (x : (List W)) (y : Int) => (RR.ofO (atI x y))) (o_itV (e := eS)) (ev_var (ea := (eV eS)) (a := a1) rfl) (ev_var (ea := eI) (a := v4.1) rfl)) (ev_c (ea := eS) (a := w_guarded) rfl))) (tv_val (ev_2 (f := fun (x : W) (y : W) => RR.ok (eqB x y)) (o_eq (e := eS)) (ev_2p (f := fun (x : (List W)) (y : Int) => (RR.ofO (atI x y))) (o_itV (e := eS)) (ev_var (ea := (eV eS)) (a := a1) rfl) (ev_var (ea := eI) (a := v4.2) rfl)) (ev_c (ea := eS) (a := w_guarded) rfl))))) (fun v4 => (ev_t2t (ev_var (ea := eI) (a := v4.1) rfl) (ev_var (ea := eI) (a := v4.2) rfl)))) (fun v10 => (gv_new (e := (eT3 eI eI eI)) (gv_wpS (gv_fort (ea := (eT2 eI eI)) (A := (fun v12 : (List (Int × Int × Int)) => ([some ((eV (eV (eT2 eS eS))) a0), some ((eV eS) a1), some ((eL (eL eI)) a2), some ((eL (eT2 eI eI)) v10), some (.ref 0), none, none, none, none, none, none], [.lst (List.map (eT3 eI eI eI) v12)]))) (s0 := ([] : List (Int × Int × Int))) (iv_L (ev_var (ea := (eL (eT2 eI eI))) (a := v10) rfl)) rfl (fun v11 v12 => ⟨_, rfl, gv_endS (gv_last (gv_wpS (gv_fort (ea := (eT2 eI eI)) (A := (fun v14 : (List (Int × Int × Int)) => ([some ((eV (eV (eT2 eS eS))) a0), some ((eV eS) a1), some ((eL (eL eI)) a2), some ((eL (eT2 eI eI)) v10), some (.ref 0), some (eI v11.1), some (eI v11.2), none, none, none, none], [.lst (List.map (eT3 eI eI eI) v14)]))) (s0 := v12) (iv_L (ev_var (ea := (eL (eT2 eI eI))) (a := v10) rfl)) rfl (fun v13 v14 => ⟨_, rfl, gv_endS (gv_last (gv_if (tv_and (tv_val (ev_2t (g := fun (x : Int) (y : Int) => (eqB x y)) (o_eq (e := eI)) (ev_var (ea := eI) (a := v13.1) rfl) (ev_var (ea := eI) (a := v11.2) rfl))) (tv_val (ev_call4t x_is_pinch (ev_var (ea := (eL (eL eI))) (a := a2) rfl) (ev_var (ea := eI) (a := v11.1) rfl) (ev_var (ea := eI) (a := v11.2) rfl) (ev_var (ea := eI) (a := v13.2) rfl)))) (gv_appt (e := (eT3 eI eI eI)) (xs := v14) rfl rfl (ev_t3t (ev_var (ea := eI) (a := v11.1) rfl) (ev_var (ea := eI) (a := v11.2) rfl) (ev_var (ea := eI) (a := v13.2) rfl)) (gv_nil ⟨_, _, .inl rfl, rfl⟩)) (gv_skip (gv_nil ⟨_, _, .inl rfl, rfl⟩))))⟩) (fun v17 => (gv_nil ⟨_, _, .inl rfl, rfl⟩)))))⟩) (fun v18 => (gv_last (gv_frzS (e := (eT3 eI eI eI)) (xs := v18) rfl rfl (gv_retp (ev_n1p (f := fun (x : (List (Int × Int × Int))) => (sortF (ltP ltI (ltP ltI ltI)) x)) (o_sortL (e := (eT3 eI eI eI))) (ev_var (ea := (eL (eT3 eI eI eI))) (a := v18) rfl)))))))))))))
def n_pinches (a0 : (List (List (W × W)))) (a1 : (List W)) (a2 : (List Int)) : RR (List (Int × Int × Int)) := RR.san (RR.bnd (n_need_all a0 a1 a2) fun v5 => (RR.bnd (RR.bnd (.ok a0) fun v1 => RR.bnd (.ok a1) fun v2 => RR.bnd (n_times_of a0 a2) fun v3 => n_pinches_in v1 v2 v3) fun v4 => RR.ok v4))
theorem x_pinches (a0 : (List (List (W × W)))) (a1 : (List W)) (a2 : (List Int)) : RV (p_pinches [(eV (eV (eT2 eS eS))) a0, (eV eS) a1, (eV eI) a2]) (n_pinches a0 a1 a2) (eV (eT3 eI eI eI)) := rv_fn (t := t_pinches) (by simp only [belows, RF.b, Bool.and_self]) (gv_expr (ev_call3t x_need_all (ev_var (ea := (eV (eV (eT2 eS eS)))) (a := a0) rfl) (ev_var (ea := (eV eS)) (a := a1) rfl) (ev_var (ea := (eV eI)) (a := a2) rfl)) (fun v5 => (gv_last (gv_retp (ev_n1 (f := fun (x : (List (Int × Int × Int))) => RR.ok x) (o_tupleL (e := (eT3 eI eI eI))) (ev_call3 x_pinches_in (ev_var (ea := (eV (eV (eT2 eS eS)))) (a := a0) rfl) (ev_var (ea := (eV eS)) (a := a1) rfl) (ev_call2t x_times_of (ev_var (ea := (eV (eV (eT2 eS eS)))) (a := a0) rfl) (ev_var (ea := (eV eI)) (a := a2) rfl))))))))
def n_cut_of (a0 : (List (List (W × W)))) (a1 : (List W)) (a2 : Int) (a3 : Int) : RR ((List (W × W)) × W × Int) := RR.san (RR.bnd (RR.ofO (atI a0 a2)) fun v1 => RR.bnd (RR.ofO (atI a1 a2)) fun v2 => RR.bnd (.ok a3) fun v3 => .ok (v1, v2, v3))
theorem x_cut_of (a0 : (List (List (W × W)))) (a1 : (List W)) (a2 : Int) (a3 : Int) : RV (p_cut_of [(eV (eV (eT2 eS eS))) a0, (eV eS) a1, eI a2, eI a3]) (n_cut_of a0 a1 a2 a3) (eT3 (eV (eT2 eS eS)) eS eI) := rv_fn (t := t_cut_of) (by simp only [belows, RF.b, Bool.and_self]) (gv_last (gv_retp (ev_t3 (ev_2p (f := fun (x : (List (List (W × W)))) (y : Int) => (RR.ofO (atI x y))) (o_itV (e := (eV (eT2 eS eS)))) (ev_var (ea := (eV (eV (eT2 eS eS)))) (a := a0) rfl) (ev_var (ea := eI) (a := a2) rfl)) (ev_2p (f := fun (x : (List W)) (y : Int) => (RR.ofO (atI x y))) (o_itV (e := eS)) (ev_var (ea := (eV eS)) (a := a1) rfl) (ev_var (ea := eI) (a := a2) rfl)) (ev_var (ea := eI) (a := a3) rfl))))
def n_is_struck (a0 : ((List (W × W)) × W × Int)) (a1 : (List (W × W))) : RR Bool := RR.san (RR.bnd (n_things_in (if (eqB a0.2.1 w_late) = true then (cutN a0.1 none (some a0.2.2)) else a0.1) w_mark) fun v1 => (RR.bnd (fitR (List.map (fun v2 => (inB (w_mark, v2) a1)) v1)) fun v3 => RR.ok (List.any v3 id)))
theorem x_is_struck (a0 : ((List (W × W)) × W × Int)) (a1 : (List (W × W))) : RV (p_is_struck [(eT3 (eV (eT2 eS eS)) eS eI) a0, (eV (eT2 eS eS)) a1]) (n_is_struck a0 a1) eB := rv_fn (t := t_is_struck) (by simp only [belows, RF.b, Bool.and_self]) (gv_asgt (ev_var (ea := (eT3 (eV (eT2 eS eS)) eS eI)) (a := a0) rfl) rfl (gv_set (ev_call2t x_things_in (ev_ift (tv_val (ev_2t (g := fun (x : W) (y : W) => (eqB x y)) (o_eq (e := eS)) (ev_var (ea := eS) (a := a0.2.1) rfl) (ev_c (ea := eS) (a := w_late) rfl))) (ev_slt (sl_V (e := (eT2 eS eS))) (ev_var (ea := (eV (eT2 eS eS))) (a := a0.1) rfl) ov_no (ov_partt (ev_var (ea := eI) (a := a0.2.2) rfl))) (ev_var (ea := (eV (eT2 eS eS))) (a := a0.1) rfl)) (ev_c (ea := eS) (a := w_mark) rfl)) (fun v1 => (gv_last (gv_retp (ev_n1 (f := fun (x : (List Bool)) => RR.ok (List.any x id)) o_anyL (ev_lcy (ea := eS) (ec := eB) (iv_L (ev_var (ea := (eL eS)) (a := v1) rfl)) (fun _ => rfl) (fun v2 => (ev_2t (g := fun (x : (W × W)) (y : (List (W × W))) => (inB x y)) (o_inV (e := (eT2 eS eS))) (ev_t2t (ev_c (ea := eS) (a := w_mark) rfl) (ev_var (ea := eS) (a := v2) rfl)) (ev_var (ea := (eV (eT2 eS eS))) (a := a1) rfl))))))))))
def n_does_warn (a0 : ((List (W × W)) × W × Int)) (a1 : W) (a2 : (List (W × W))) : RR Bool := RR.san (if ((!eqB a0.2.1 w_guarded) || (!eqB a1 w_guarded)) = true then .ok false else (RR.bnd (RR.bnd (n_things_in a0.1 w_look) fun v2 => fitR (List.map (fun v1 => (inB (w_mark, v1) a2)) v2)) fun v3 => RR.ok (List.any v3 id)))
theorem x_does_warn (a0 : ((List (W × W)) × W × Int)) (a1 : W) (a2 : (List (W × W))) : RV (p_does_warn [(eT3 (eV (eT2 eS eS)) eS eI) a0, eS a1, (eV (eT2 eS eS)) a2]) (n_does_warn a0 a1 a2) eB := rv_fn (t := t_does_warn) (by simp only [belows, RF.b, Bool.and_self]) (gv_ift (tv_ort (tv_val (ev_2t (g := fun (x : W) (y : W) => (!eqB x y)) (o_ne (e := eS)) (ev_att (ea := (eT3 (eV (eT2 eS eS)) eS eI)) (ec := eS) (g := fun p => p.2.1) (ev_var (ea := (eT3 (eV (eT2 eS eS)) eS eI)) (a := a0) rfl) fun _ _ => rfl) (ev_c (ea := eS) (a := w_guarded) rfl))) (tv_val (ev_2t (g := fun (x : W) (y : W) => (!eqB x y)) (o_ne (e := eS)) (ev_var (ea := eS) (a := a1) rfl) (ev_c (ea := eS) (a := w_guarded) rfl)))) (gv_rett (ev_c (ea := eB) (a := false) rfl) jf_rt) (gv_skip (gv_last (gv_retp (ev_n1 (f := fun (x : (List Bool)) => RR.ok (List.any x id)) o_anyL (ev_lcpy (ea := eS) (ec := eB) (iv_L (ev_call2t x_things_in (ev_att (ea := (eT3 (eV (eT2 eS eS)) eS eI)) (ec := (eV (eT2 eS eS))) (g := fun p => p.1) (ev_var (ea := (eT3 (eV (eT2 eS eS)) eS eI)) (a := a0) rfl) fun _ _ => rfl) (ev_c (ea := eS) (a := w_look) rfl))) (fun _ => rfl) (fun v1 => (ev_2t (g := fun (x : (W × W)) (y : (List (W × W))) => (inB x y)) (o_inV (e := (eT2 eS eS))) (ev_t2t (ev_c (ea := eS) (a := w_mark) rfl) (ev_var (ea := eS) (a := v1) rfl)) (ev_var (ea := (eV (eT2 eS eS))) (a := a2) rfl)))))))))
def n_does_catch (a0 : ((List (W × W)) × W × Int)) (a1 : W) (a2 : (List (W × W))) : RR Bool := RR.san (if ((!eqB a0.2.1 w_guarded) || (!eqB a1 w_guarded)) = true then .ok false else (RR.bnd (RR.bnd (n_things_in a0.1 w_mark) fun v2 => fitR (List.map (fun v1 => (inB (w_look, v1) a2)) v2)) fun v3 => RR.ok (List.any v3 id)))
theorem x_does_catch (a0 : ((List (W × W)) × W × Int)) (a1 : W) (a2 : (List (W × W))) : RV (p_does_catch [(eT3 (eV (eT2 eS eS)) eS eI) a0, eS a1, (eV (eT2 eS eS)) a2]) (n_does_catch a0 a1 a2) eB := rv_fn (t := t_does_catch) (by simp only [belows, RF.b, Bool.and_self]) (gv_ift (tv_ort (tv_val (ev_2t (g := fun (x : W) (y : W) => (!eqB x y)) (o_ne (e := eS)) (ev_att (ea := (eT3 (eV (eT2 eS eS)) eS eI)) (ec := eS) (g := fun p => p.2.1) (ev_var (ea := (eT3 (eV (eT2 eS eS)) eS eI)) (a := a0) rfl) fun _ _ => rfl) (ev_c (ea := eS) (a := w_guarded) rfl))) (tv_val (ev_2t (g := fun (x : W) (y : W) => (!eqB x y)) (o_ne (e := eS)) (ev_var (ea := eS) (a := a1) rfl) (ev_c (ea := eS) (a := w_guarded) rfl)))) (gv_rett (ev_c (ea := eB) (a := false) rfl) jf_rt) (gv_skip (gv_last (gv_retp (ev_n1 (f := fun (x : (List Bool)) => RR.ok (List.any x id)) o_anyL (ev_lcpy (ea := eS) (ec := eB) (iv_L (ev_call2t x_things_in (ev_att (ea := (eT3 (eV (eT2 eS eS)) eS eI)) (ec := (eV (eT2 eS eS))) (g := fun p => p.1) (ev_var (ea := (eT3 (eV (eT2 eS eS)) eS eI)) (a := a0) rfl) fun _ _ => rfl) (ev_c (ea := eS) (a := w_mark) rfl))) (fun _ => rfl) (fun v1 => (ev_2t (g := fun (x : (W × W)) (y : (List (W × W))) => (inB x y)) (o_inV (e := (eT2 eS eS))) (ev_t2t (ev_c (ea := eS) (a := w_look) rfl) (ev_var (ea := eS) (a := v1) rfl)) (ev_var (ea := (eV (eT2 eS eS))) (a := a2) rfl)))))))))
def n_warned_by (a0 : ((List (W × W)) × W × Int)) (a1 : W) (a2 : (List (W × W))) (a3 : Bool) : RR (Option Bool) := RR.san (RR.bnd (RR.bnd (.ok a3) fun v1 => if v1 = true then .ok true else (n_does_warn a0 a1 a2)) fun v2 => (RR.bnd (RR.bnd (n_is_struck a0 a2) fun v4 => if v4 = true then .ok true else (RR.bnd (.ok v2) fun v3 => if v3 = true then (n_does_catch a0 a1 a2) else .ok false)) fun v5 => if v5 = true then .ok (none : (Option Bool)) else .ok (some v2)))
theorem x_warned_by (a0 : ((List (W × W)) × W × Int)) (a1 : W) (a2 : (List (W × W))) (a3 : Bool) : RV (p_warned_by [(eT3 (eV (eT2 eS eS)) eS eI) a0, eS a1, (eV (eT2 eS eS)) a2, eB a3]) (n_warned_by a0 a1 a2 a3) (eO eB) := rv_fn (t := t_warned_by) (by simp only [belows, RF.b, Bool.and_self]) (gv_set (ev_or (ev_var (ea := eB) (a := a3) rfl) (ev_call3t x_does_warn (ev_var (ea := (eT3 (eV (eT2 eS eS)) eS eI)) (a := a0) rfl) (ev_var (ea := eS) (a := a1) rfl) (ev_var (ea := (eV (eT2 eS eS))) (a := a2) rfl))) (fun v2 => (gv_if (tv_or (tv_val (ev_call2t x_is_struck (ev_var (ea := (eT3 (eV (eT2 eS eS)) eS eI)) (a := a0) rfl) (ev_var (ea := (eV (eT2 eS eS))) (a := a2) rfl))) (tv_and (tv_val (ev_var (ea := eB) (a := v2) rfl)) (tv_val (ev_call3t x_does_catch (ev_var (ea := (eT3 (eV (eT2 eS eS)) eS eI)) (a := a0) rfl) (ev_var (ea := eS) (a := a1) rfl) (ev_var (ea := (eV (eT2 eS eS))) (a := a2) rfl))))) (gv_rett (ev_none (e := eB) (ev_c (ea := eN) (a := ()) rfl)) jf_rt) (gv_skip (gv_last (gv_rett (ev_somet (e := eB) (ev_var (ea := eB) (a := v2) rfl)) jf_rt))))))
def n_can_begin (a0 : ((List (W × W)) × W × Int)) (a1 : (List (W × W))) : RR Bool := RR.san (RR.bnd (RR.bnd (.ok w_mark) fun v2 => RR.bnd (RR.bnd (RR.ofO (atI a0.1 a0.2.2)) fun v1 => .ok v1.2) fun v3 => .ok (v2, v3)) fun v4 => RR.bnd (.ok a1) fun v5 => RR.ok (inB v4 v5))
theorem x_can_begin (a0 : ((List (W × W)) × W × Int)) (a1 : (List (W × W))) : RV (p_can_begin [(eT3 (eV (eT2 eS eS)) eS eI) a0, (eV (eT2 eS eS)) a1]) (n_can_begin a0 a1) eB := rv_fn (t := t_can_begin) (by simp only [belows, RF.b, Bool.and_self]) (gv_last (gv_retp (ev_2 (f := fun (x : (W × W)) (y : (List (W × W))) => RR.ok (inB x y)) (o_inV (e := (eT2 eS eS))) (ev_t2 (ev_c (ea := eS) (a := w_mark) rfl) (ev_at (ea := (eT2 eS eS)) (ec := eS) (g := fun p => p.2) (ev_2p (f := fun (x : (List (W × W))) (y : Int) => (RR.ofO (atI x y))) (o_itV (e := (eT2 eS eS))) (ev_att (ea := (eT3 (eV (eT2 eS eS)) eS eI)) (ec := (eV (eT2 eS eS))) (g := fun p => p.1) (ev_var (ea := (eT3 (eV (eT2 eS eS)) eS eI)) (a := a0) rfl) fun _ _ => rfl) (ev_att (ea := (eT3 (eV (eT2 eS eS)) eS eI)) (ec := eI) (g := fun p => p.2.2) (ev_var (ea := (eT3 (eV (eT2 eS eS)) eS eI)) (a := a0) rfl) fun _ _ => rfl)) fun _ _ => rfl)) (ev_var (ea := (eV (eT2 eS eS))) (a := a1) rfl))))
def n_is_look (a0 : (List (List (W × W)))) (a1 : Int) (a2 : Int) : RR Bool := RR.san (RR.bnd (RR.bnd (RR.bnd (RR.ofO (atI a0 a1)) fun v1 => RR.bnd (.ok a2) fun v2 => (RR.ofO (atI v1 v2))) fun v3 => .ok v3.1) fun v4 => RR.bnd (.ok w_look) fun v5 => RR.ok (eqB v4 v5))
theorem x_is_look (a0 : (List (List (W × W)))) (a1 : Int) (a2 : Int) : RV (p_is_look [(eV (eV (eT2 eS eS))) a0, eI a1, eI a2]) (n_is_look a0 a1 a2) eB := rv_fn (t := t_is_look) (by simp only [belows, RF.b, Bool.and_self]) (gv_last (gv_retp (ev_2 (f := fun (x : W) (y : W) => RR.ok (eqB x y)) (o_eq (e := eS)) (ev_at (ea := (eT2 eS eS)) (ec := eS) (g := fun p => p.1) (ev_2 (f := fun (x : (List (W × W))) (y : Int) => (RR.ofO (atI x y))) (o_itV (e := (eT2 eS eS))) (ev_2p (f := fun (x : (List (List (W × W)))) (y : Int) => (RR.ofO (atI x y))) (o_itV (e := (eV (eT2 eS eS)))) (ev_var (ea := (eV (eV (eT2 eS eS)))) (a := a0) rfl) (ev_var (ea := eI) (a := a1) rfl)) (ev_var (ea := eI) (a := a2) rfl)) fun _ _ => rfl) (ev_c (ea := eS) (a := w_look) rfl))))
def n_walks_from (a0 : (List (List (W × W)))) (a1 : (List W)) (a2 : Int) (a3 : Int) : RR (List (Int × Int × Int × Bool)) := RR.san (RR.bnd (n_cut_of a0 a1 a2 a3) fun v1 => (RR.bnd (foldR (fun v2 v3 => (RR.bnd (RR.bnd (.ok v1) fun v4 => RR.bnd (RR.ofO (atI a1 v2.1)) fun v5 => RR.bnd (.ok v2.2) fun v6 => RR.bnd (.ok false) fun v7 => n_warned_by v4 v5 v6 v7) fun v8 => (RR.bnd (RR.bnd (.ok (!eqB v2.1 a2)) fun v10 => if v10 = true then (RR.bnd (n_can_begin v1 v2.2) fun v9 => if v9 = true then (.ok (Option.isSome v8)) else .ok false) else .ok false) fun v21 => if v21 = true then (RR.bnd (RR.bnd (.ok a2) fun v16 => RR.bnd (.ok a3) fun v17 => RR.bnd (.ok v2.1) fun v18 => RR.bnd (unO v8) fun v19 => .ok (v16, v17, v18, v19)) fun v20 => (if v3.length < sizeLine then .ok (v3 ++ [v20]) else .stuck)) else .ok v3))) (enumN 0 a0) ([] : List (Int × Int × Int × Bool))) fun v22 => .ok v22))
theorem x_walks_from (a0 : (List (List (W × W)))) (a1 : (List W)) (a2 : Int) (a3 : Int) : RV (p_walks_from [(eV (eV (eT2 eS eS))) a0, (eV eS) a1, eI a2, eI a3]) (n_walks_from a0 a1 a2 a3) (eL (eT4 eI eI eI eB)) := rv_fn (t := t_walks_from) (by simp only [belows, RF.b, Bool.and_self]) (gv_parNew (eb := (eT4 eI eI eI eB)) (ev_call4t x_cut_of (ev_var (ea := (eV (eV (eT2 eS eS)))) (a := a0) rfl) (ev_var (ea := (eV eS)) (a := a1) rfl) (ev_var (ea := eI) (a := a2) rfl) (ev_var (ea := eI) (a := a3) rfl)) (fun v1 => (gv_wpS (gv_fort (ea := (eT2 eI (eV (eT2 eS eS)))) (A := (fun v3 : (List (Int × Int × Int × Bool)) => ([some ((eV (eV (eT2 eS eS))) a0), some ((eV eS) a1), some (eI a2), some (eI a3), some ((eT3 (eV (eT2 eS eS)) eS eI) v1), some (.ref 0), none, none, none], [.lst (List.map (eT4 eI eI eI eB) v3)]))) (s0 := ([] : List (Int × Int × Int × Bool))) (iv_enumVt (ev_var (ea := (eV (eV (eT2 eS eS)))) (a := a0) rfl)) rfl (fun v2 v3 => ⟨_, rfl, gv_endS (gv_set (ev_call4 x_warned_by (ev_var (ea := (eT3 (eV (eT2 eS eS)) eS eI)) (a := v1) rfl) (ev_2p (f := fun (x : (List W)) (y : Int) => (RR.ofO (atI x y))) (o_itV (e := eS)) (ev_var (ea := (eV eS)) (a := a1) rfl) (ev_var (ea := eI) (a := v2.1) rfl)) (ev_var (ea := (eV (eT2 eS eS))) (a := v2.2) rfl) (ev_c (ea := eB) (a := false) rfl)) (fun v8 => (gv_last (gv_if (tv_and (tv_val (ev_2t (g := fun (x : Int) (y : Int) => (!eqB x y)) (o_ne (e := eI)) (ev_var (ea := eI) (a := v2.1) rfl) (ev_var (ea := eI) (a := a2) rfl))) (tv_and (tv_val (ev_call2t x_can_begin (ev_var (ea := (eT3 (eV (eT2 eS eS)) eS eI)) (a := v1) rfl) (ev_var (ea := (eV (eT2 eS eS))) (a := v2.2) rfl))) (tv_val (ev_2t (g := fun (x : (Option Bool)) (y : Unit) => (Option.isSome x)) (o_notN (e := eB)) (ev_var (ea := (eO eB)) (a := v8) rfl) (ev_c (ea := eN) (a := ()) rfl))))) (gv_app (e := (eT4 eI eI eI eB)) (xs := v3) rfl rfl (ev_t4 (ev_var (ea := eI) (a := a2) rfl) (ev_var (ea := eI) (a := a3) rfl) (ev_var (ea := eI) (a := v2.1) rfl) (ev_unt (ev_var (ea := (eO eB)) (a := v8) rfl))) (fun v20 => (gv_nil ⟨_, _, .inl rfl, rfl⟩))) (gv_skip (gv_nil ⟨_, _, .inl rfl, rfl⟩))))))⟩) (fun v22 => (gv_last (gv_frzS (e := (eT4 eI eI eI eB)) (xs := v22) rfl rfl (gv_rett (ev_var (ea := (eL (eT4 eI eI eI eB))) (a := v22) rfl) jf_rt))))))))
def n_walks_behind (a0 : (List (List (W × W)))) (a1 : (List W)) (a2 : (Int × Int × Int × Bool)) : RR (List (Int × Int × Int × Bool)) := RR.san (RR.bnd (n_cut_of a0 a1 a2.1 a2.2.1) fun v1 => (RR.bnd (foldR (fun v2 v3 => (RR.bnd (RR.bnd (.ok (!inB v2.1 [a2.1, a2.2.2.1])) fun v8 => if v8 = true then (RR.bnd (RR.bnd (RR.ofO (atI a0 a2.2.2.1)) fun v4 => RR.bnd (.ok v2.2) fun v5 => n_touching_in v4 v5) fun v6 => RR.bnd (.ok ([] : (List (Int × Int)))) fun v7 => RR.ok (!eqB v6 v7)) else .ok false) fun v39 => if v39 = true then (RR.bnd (RR.bnd (.ok v1) fun v24 => RR.bnd (RR.ofO (atI a1 v2.1)) fun v25 => RR.bnd (.ok v2.2) fun v26 => RR.bnd (.ok a2.2.2.2) fun v27 => n_warned_by v24 v25 v26 v27) fun v28 => (if (Option.isSome v28) = true then (RR.bnd (RR.bnd (.ok a2.1) fun v34 => RR.bnd (.ok a2.2.1) fun v35 => RR.bnd (.ok v2.1) fun v36 => RR.bnd (unO v28) fun v37 => .ok (v34, v35, v36, v37)) fun v38 => (if v3.length < sizeLine then .ok (v3 ++ [v38]) else .stuck)) else .ok v3)) else .ok v3)) (enumN 0 a0) ([] : List (Int × Int × Int × Bool))) fun v40 => .ok v40))
theorem x_walks_behind (a0 : (List (List (W × W)))) (a1 : (List W)) (a2 : (Int × Int × Int × Bool)) : RV (p_walks_behind [(eV (eV (eT2 eS eS))) a0, (eV eS) a1, (eT4 eI eI eI eB) a2]) (n_walks_behind a0 a1 a2) (eL (eT4 eI eI eI eB)) := rv_fn (t := t_walks_behind) (by simp only [belows, RF.b, Bool.and_self]) (gv_asgt (ev_var (ea := (eT4 eI eI eI eB)) (a := a2) rfl) rfl (gv_parNew (eb := (eT4 eI eI eI eB)) (ev_call4t x_cut_of (ev_var (ea := (eV (eV (eT2 eS eS)))) (a := a0) rfl) (ev_var (ea := (eV eS)) (a := a1) rfl) (ev_var (ea := eI) (a := a2.1) rfl) (ev_var (ea := eI) (a := a2.2.1) rfl)) (fun v1 => (gv_wpS (gv_fort (ea := (eT2 eI (eV (eT2 eS eS)))) (A := (fun v3 : (List (Int × Int × Int × Bool)) => ([some ((eV (eV (eT2 eS eS))) a0), some ((eV eS) a1), some ((eT4 eI eI eI eB) a2), some (eI a2.1), some (eI a2.2.1), some (eI a2.2.2.1), some (eB a2.2.2.2), some ((eT3 (eV (eT2 eS eS)) eS eI) v1), some (.ref 0), none, none, none], [.lst (List.map (eT4 eI eI eI eB) v3)]))) (s0 := ([] : List (Int × Int × Int × Bool))) (iv_enumVt (ev_var (ea := (eV (eV (eT2 eS eS)))) (a := a0) rfl)) rfl (fun v2 v3 => ⟨_, rfl, gv_endS (gv_last (gv_if (tv_and (tv_val (ev_2t (g := fun (x : Int) (y : (List Int)) => (!inB x y)) (o_niV (e := eI)) (ev_var (ea := eI) (a := v2.1) rfl) (ev_tvk (av_const (ev_var (ea := eI) (a := a2.1) rfl) (av_const (ev_var (ea := eI) (a := a2.2.2.1) rfl) (av_nilm (e := eI)))) rfl))) (tv_val (ev_2 (f := fun (x : (List (Int × Int))) (y : (List (Int × Int))) => RR.ok (!eqB x y)) (o_ne (e := (eL (eT2 eI eI)))) (ev_call2 x_touching_in (ev_2p (f := fun (x : (List (List (W × W)))) (y : Int) => (RR.ofO (atI x y))) (o_itV (e := (eV (eT2 eS eS)))) (ev_var (ea := (eV (eV (eT2 eS eS)))) (a := a0) rfl) (ev_var (ea := eI) (a := a2.2.2.1) rfl)) (ev_var (ea := (eV (eT2 eS eS))) (a := v2.2) rfl)) (ev_ll0 (e := (eT2 eI eI)))))) (gv_assoc (gv_set (ev_call4 x_warned_by (ev_var (ea := (eT3 (eV (eT2 eS eS)) eS eI)) (a := v1) rfl) (ev_2p (f := fun (x : (List W)) (y : Int) => (RR.ofO (atI x y))) (o_itV (e := eS)) (ev_var (ea := (eV eS)) (a := a1) rfl) (ev_var (ea := eI) (a := v2.1) rfl)) (ev_var (ea := (eV (eT2 eS eS))) (a := v2.2) rfl) (ev_var (ea := eB) (a := a2.2.2.2) rfl)) (fun v28 => (gv_ift (tv_val (ev_2t (g := fun (x : (Option Bool)) (y : Unit) => (Option.isSome x)) (o_notN (e := eB)) (ev_var (ea := (eO eB)) (a := v28) rfl) (ev_c (ea := eN) (a := ()) rfl))) (gv_app (e := (eT4 eI eI eI eB)) (xs := v3) rfl rfl (ev_t4 (ev_var (ea := eI) (a := a2.1) rfl) (ev_var (ea := eI) (a := a2.2.1) rfl) (ev_var (ea := eI) (a := v2.1) rfl) (ev_unt (ev_var (ea := (eO eB)) (a := v28) rfl))) (fun v38 => (gv_nil ⟨_, _, .inl rfl, rfl⟩))) (gv_skip (gv_nil ⟨_, _, .inl rfl, rfl⟩)))))) (gv_skip (gv_nil ⟨_, _, .inl rfl, rfl⟩))))⟩) (fun v40 => (gv_last (gv_frzS (e := (eT4 eI eI eI eB)) (xs := v40) rfl rfl (gv_rett (ev_var (ea := (eL (eT4 eI eI eI eB))) (a := v40) rfl) jf_rt)))))))))
def n_can_be_firm (a0 : (List (List (W × W)))) (a1 : Int) (a2 : Int) : RR Bool := RR.san (RR.bnd (RR.bnd (RR.bnd (RR.ofO (atI a0 a1)) fun v1 => RR.ok (v1.length : Int)) fun v2 => RR.bnd (.ok (5 : Int)) fun v3 => RR.ok (decide (v2 < v3))) fun v11 => if v11 = true then (RR.bnd (RR.bnd (.ok w_mark) fun v7 => RR.bnd (RR.bnd (RR.bnd (RR.ofO (atI a0 a1)) fun v4 => RR.bnd (.ok a2) fun v5 => (RR.ofO (atI v4 v5))) fun v6 => .ok v6.2) fun v8 => .ok (v7, v8)) fun v9 => RR.bnd (RR.ofO (atI a0 a1)) fun v10 => RR.ok (!inB v9 v10)) else .ok false)
theorem x_can_be_firm (a0 : (List (List (W × W)))) (a1 : Int) (a2 : Int) : RV (p_can_be_firm [(eV (eV (eT2 eS eS))) a0, eI a1, eI a2]) (n_can_be_firm a0 a1 a2) eB := rv_fn (t := t_can_be_firm) (by simp only [belows, RF.b, Bool.and_self]) (gv_last (gv_retp (ev_and (ev_2 (f := fun (x : Int) (y : Int) => RR.ok (decide (x < y))) o_lt (ev_n1 (f := fun (x : (List (W × W))) => RR.ok (x.length : Int)) (o_lenV (e := (eT2 eS eS))) (ev_2p (f := fun (x : (List (List (W × W)))) (y : Int) => (RR.ofO (atI x y))) (o_itV (e := (eV (eT2 eS eS)))) (ev_var (ea := (eV (eV (eT2 eS eS)))) (a := a0) rfl) (ev_var (ea := eI) (a := a1) rfl))) (ev_c (ea := eI) (a := 5) rfl)) (ev_2 (f := fun (x : (W × W)) (y : (List (W × W))) => RR.ok (!inB x y)) (o_niV (e := (eT2 eS eS))) (ev_t2 (ev_c (ea := eS) (a := w_mark) rfl) (ev_at (ea := (eT2 eS eS)) (ec := eS) (g := fun p => p.2) (ev_2 (f := fun (x : (List (W × W))) (y : Int) => (RR.ofO (atI x y))) (o_itV (e := (eT2 eS eS))) (ev_2p (f := fun (x : (List (List (W × W)))) (y : Int) => (RR.ofO (atI x y))) (o_itV (e := (eV (eT2 eS eS)))) (ev_var (ea := (eV (eV (eT2 eS eS)))) (a := a0) rfl) (ev_var (ea := eI) (a := a1) rfl)) (ev_var (ea := eI) (a := a2) rfl)) fun _ _ => rfl)) (ev_2p (f := fun (x : (List (List (W × W)))) (y : Int) => (RR.ofO (atI x y))) (o_itV (e := (eV (eT2 eS eS)))) (ev_var (ea := (eV (eV (eT2 eS eS)))) (a := a0) rfl) (ev_var (ea := eI) (a := a1) rfl))))))
def n_do_fit_in (a0 : (List (List (W × W)))) (a1 : (List (Int × Int))) : RR Bool := RR.san (RR.bnd (RR.bnd (lcR (fun v1 => (.ok true)) (fun v1 => (RR.bnd (RR.bnd (fitR (List.map (fun v2 => (1 : Int)) (List.filter (fun v2 => (eqB v2.1 v1.1)) a1))) fun v3 => RR.ok (v3.length : Int)) fun v4 => RR.bnd (.ok (v1.2.length : Int)) fun v5 => RR.ok (v4 + v5))) (enumN 0 a0)) fitR) fun v6 => (RR.bnd (maxR ltI v6) fun v7 => RR.bnd (.ok (5 : Int)) fun v8 => RR.ok (decide (v7 ≤ v8))))
theorem x_do_fit_in (a0 : (List (List (W × W)))) (a1 : (List (Int × Int))) : RV (p_do_fit_in [(eV (eV (eT2 eS eS))) a0, (eV (eT2 eI eI)) a1]) (n_do_fit_in a0 a1) eB := rv_fn (t := t_do_fit_in) (by simp only [belows, RF.b, Bool.and_self]) (gv_set (ev_lcf (ea := (eT2 eI (eV (eT2 eS eS)))) (ec := eI) (iv_enumVt (ev_var (ea := (eV (eV (eT2 eS eS)))) (a := a0) rfl)) (fun _ => rfl) (fun v1 => tv_yes) (fun v1 => (ev_2 (f := fun (x : Int) (y : Int) => RR.ok (x + y)) o_addI (ev_n1 (f := fun (x : (List Int)) => RR.ok (x.length : Int)) (o_lenL (e := eI)) (ev_lct (ea := (eT2 eI eI)) (ec := eI) (iv_V (ev_var (ea := (eV (eT2 eI eI))) (a := a1) rfl)) (fun _ => rfl) (fun v2 => (tv_val (ev_2t (g := fun (x : Int) (y : Int) => (eqB x y)) (o_eq (e := eI)) (ev_var (ea := eI) (a := v2.1) rfl) (ev_var (ea := eI) (a := v1.1) rfl)))) (fun v2 => (ev_c (ea := eI) (a := 1) rfl)))) (ev_n1t (g := fun (x : (List (W × W))) => (x.length : Int)) (o_lenV (e := (eT2 eS eS))) (ev_var (ea := (eV (eT2 eS eS))) (a := v1.2) rfl))))) (fun v6 => (gv_last (gv_retp (ev_2 (f := fun (x : Int) (y : Int) => RR.ok (decide (x ≤ y))) o_le (ev_n1p (f := fun (x : (List Int)) => (maxR ltI x)) (o_maxL (e := eI)) (ev_var (ea := (eL eI)) (a := v6) rfl)) (ev_c (ea := eI) (a := 5) rfl))))))
end MS

end

section
/-! What the law's own defs compute. -/
namespace K06
open PySem PySem.Spec PyProof.Rows L2 MX MS
noncomputable section
def t_l_right : Ss := (ssSeq (ssPar 3 4 (saCons (sxN vRepr (saCons (sxN vLst (saCons (sxVar 0) (saCons (sxVar 1) (saCons (sxVar 2) saNil)))) saNil)) (saCons (sxN vTuple (saCons (sxCall 3 m_l_arrows (saCons (sxVar 0) (saCons (sxVar 1) (saCons (sxCall 2 m_l_clocks (saCons (sxVar 0) (saCons (sxVar 2) saNil))) saNil)))) saNil)) saNil))) (ssSeq (ssSet 5 (sxN vLst (saCons (sxCall 3 m_arrows (saCons (sxVar 0) (saCons (sxVar 1) (saCons (sxVar 2) saNil)))) (saCons (sxCall 3 m_arrows (saCons (sxVar 0) (saCons (sxVar 1) (saCons (sxVar 2) saNil)))) saNil)))) (ssRet (sxAnd (sx2 vEqS (sxN vRepr (saCons (sxVar 5) saNil)) (sxN vRepr (saCons (sxN vLst (saCons (sxVar 4) (saCons (sxVar 4) saNil))) saNil))) (sx2 vEqS (sxN vRepr (saCons (sxN vLst (saCons (sxVar 0) (saCons (sxVar 1) (saCons (sxVar 2) saNil)))) saNil)) (sxVar 3))))))
def p_l_right : List PV → RR PV := pureF (bodyF 6 t_l_right)
def m_l_right : Fs := liftP p_l_right
def t_l_more : Ss := (ssSeq (ssSet 0 (sxN vTup (saCons (sxN vTup (saCons (sxN vTup (saCons (sxC (.str "mark")) (saCons (sxC (.str "a")) saNil))) (saCons (sxN vTup (saCons (sxC (.str "mark")) (saCons (sxC (.str "b")) saNil))) saNil))) (saCons (sxN vTup (saCons (sxN vTup (saCons (sxC (.str "mark")) (saCons (sxC (.str "a")) saNil))) saNil)) saNil)))) (ssSeq (ssIf (stB (sx2 vNe (sxCall 3 m_arrows (saCons (sxVar 0) (saCons (sxN vTup (saCons (sxC (.str "late")) (saCons (sxC (.str "late")) saNil))) (saCons (sxN vTup (saCons (sxC (.int 0)) (saCons (sxC (.int 1)) (saCons (sxC (.int 1)) (saCons (sxC (.int 0)) (saCons (sxC (.int 0)) saNil)))))) saNil)))) (sxN vTup (saCons (sxN vTup (saCons (sxC (.int 1)) (saCons (sxC (.int 0)) (saCons (sxC (.str "over")) saNil)))) saNil)))) (ssRet (sxC (.bl false))) ssNil) (ssSeq (ssSet 1 (sxN vTup (saCons (sxN vTup (saCons (sxN vTup (saCons (sxC (.str "look")) (saCons (sxC (.str "a")) saNil))) (saCons (sxN vTup (saCons (sxC (.str "mark")) (saCons (sxC (.str "b")) saNil))) saNil))) (saCons (sxN vTup (saCons (sxN vTup (saCons (sxC (.str "look")) (saCons (sxC (.str "ab")) saNil))) saNil)) (saCons (sxN vTup (saCons (sxN vTup (saCons (sxC (.str "look")) (saCons (sxC (.str "b")) saNil))) saNil)) saNil))))) (ssSeq (ssIf (stB (sx2 vNe (sxCall 3 m_arrows (saCons (sxVar 1) (saCons (sx2 vMulT (sxN vTup (saCons (sxC (.str "early")) saNil)) (sxC (.int 3))) (saCons (sxN vTup (saCons (sxC (.int 0)) (saCons (sxC (.int 0)) (saCons (sxC (.int 0)) (saCons (sxC (.int 1)) (saCons (sxC (.int 1)) (saCons (sxC (.int 2)) (saCons (sxC (.int 2)) saNil)))))))) saNil)))) (sxN vTup (saCons (sxN vTup (saCons (sxC (.int 0)) (saCons (sxC (.int 2)) (saCons (sxC (.str "shown")) saNil)))) saNil)))) (ssRet (sxC (.bl false))) ssNil) (ssRet (sx2 vEq (sxCall 3 m_arrows (saCons (sxN vTup (saCons (sxN vTup (saCons (sxN vTup (saCons (sxC (.str "look")) (saCons (sxC (.str "a")) saNil))) (saCons (sxN vTup (saCons (sxC (.str "mark")) (saCons (sxC (.str "a")) saNil))) saNil))) saNil)) (saCons (sxN vTup (saCons (sxC (.str "late")) saNil)) (saCons (sxN vTup (saCons (sxC (.int 0)) (saCons (sxC (.int 0)) (saCons (sxC (.int 0)) saNil)))) saNil)))) (sxN vTup saNil)))))))
def p_l_more : List PV → RR PV := pureF (bodyF 2 t_l_more)
def m_l_more : Fs := liftP p_l_more
def t_l_hand : Ss := (ssSeq (ssSet 0 (sx2 vMulT (sxN vTup (saCons (sxN vTup (saCons (sxN vTup (saCons (sxC (.str "look")) (saCons (sxC (.str "a")) saNil))) (saCons (sxN vTup (saCons (sxC (.str "mark")) (saCons (sxC (.str "a")) saNil))) saNil))) saNil)) (sxC (.int 2)))) (ssSeq (ssSet 1 (sxN vLst (saCons (sxCall 3 m_arrows (saCons (sxVar 0) (saCons (sxN vTup (saCons (sxC (.str "late")) (saCons (sxC (.str "late")) saNil))) (saCons (sxN vTup (saCons (sxC (.int 0)) (saCons (sxC (.int 0)) (saCons (sxC (.int 0)) (saCons (sxC (.int 1)) (saCons (sxC (.int 1)) (saCons (sxC (.int 1)) saNil))))))) saNil)))) (saCons (sxCall 3 m_arrows (saCons (sxVar 0) (saCons (sxN vTup (saCons (sxC (.str "late")) (saCons (sxC (.str "early")) saNil))) (saCons (sxN vTup (saCons (sxC (.int 0)) (saCons (sxC (.int 1)) (saCons (sxC (.int 0)) (saCons (sxC (.int 1)) (saCons (sxC (.int 0)) (saCons (sxC (.int 1)) saNil))))))) saNil)))) saNil)))) (ssSeq (ssSet 2 (sxN vTup (saCons (sxN vTup (saCons (sxC (.int 0)) (saCons (sxC (.int 1)) (saCons (sxC (.str "missed")) saNil)))) (saCons (sxN vTup (saCons (sxC (.int 0)) (saCons (sxC (.int 1)) (saCons (sxC (.str "over")) saNil)))) (saCons (sxN vTup (saCons (sxC (.int 1)) (saCons (sxC (.int 0)) (saCons (sxC (.str "missed")) saNil)))) saNil))))) (ssSeq (ssIf (stB (sx2 vNe (sxVar 1) (sxN vLst (saCons (sxN vTup (saCons (sxN vTup (saCons (sxC (.int 0)) (saCons (sxC (.int 1)) (saCons (sxC (.str "missed")) saNil)))) (saCons (sxN vTup (saCons (sxC (.int 0)) (saCons (sxC (.int 1)) (saCons (sxC (.str "over")) saNil)))) (saCons (sxN vTup (saCons (sxC (.int 0)) (saCons (sxC (.int 1)) (saCons (sxC (.str "shown")) saNil)))) saNil)))) (saCons (sxVar 2) saNil))))) (ssRet (sxC (.bl false))) ssNil) (ssSeq (ssSet 3 (sxN vTup (saCons (sxN vTup (saCons (sxN vTup (saCons (sxC (.str "mark")) (saCons (sxC (.str "a")) saNil))) saNil)) (saCons (sxN vTup (saCons (sxN vTup (saCons (sxC (.str "mark")) (saCons (sxC (.str "a")) saNil))) saNil)) (saCons (sxN vTup (saCons (sxN vTup (saCons (sxC (.str "look")) (saCons (sxC (.str "a")) saNil))) saNil)) saNil))))) (ssSeq (ssSet 4 (sxN vTup (saCons (sxN vTup (saCons (sxC (.int 0)) (saCons (sxC (.int 1)) (saCons (sxC (.str "over")) saNil)))) (saCons (sxN vTup (saCons (sxC (.int 0)) (saCons (sxC (.int 2)) (saCons (sxC (.str "shown")) saNil)))) (saCons (sxN vTup (saCons (sxC (.int 1)) (saCons (sxC (.int 2)) (saCons (sxC (.str "shown")) saNil)))) saNil))))) (ssSeq (ssIf (stB (sx2 vNe (sxCall 3 m_arrows (saCons (sxVar 3) (saCons (sx2 vMulT (sxN vTup (saCons (sxC (.str "late")) saNil)) (sxC (.int 3))) (saCons (sxN vTup (saCons (sxC (.int 0)) (saCons (sxC (.int 0)) (saCons (sxC (.int 1)) (saCons (sxC (.int 1)) (saCons (sxC (.int 2)) (saCons (sxC (.int 2)) saNil))))))) saNil)))) (sxVar 4))) (ssRet (sxC (.bl false))) ssNil) (ssSeq (ssSet 4 (sxN vTup (saCons (sxN vTup (saCons (sxC (.int 0)) (saCons (sxC (.int 1)) (saCons (sxC (.str "over")) saNil)))) (saCons (sxN vTup (saCons (sxC (.int 0)) (saCons (sxC (.int 2)) (saCons (sxC (.str "shown")) saNil)))) (saCons (sxN vTup (saCons (sxC (.int 2)) (saCons (sxC (.int 1)) (saCons (sxC (.str "missed")) saNil)))) saNil))))) (ssSeq (ssIf (stB (sx2 vNe (sxCall 3 m_arrows (saCons (sxVar 3) (saCons (sx2 vMulT (sxN vTup (saCons (sxC (.str "late")) saNil)) (sxC (.int 3))) (saCons (sxN vTup (saCons (sxC (.int 1)) (saCons (sxC (.int 0)) (saCons (sxC (.int 0)) (saCons (sxC (.int 2)) (saCons (sxC (.int 1)) (saCons (sxC (.int 2)) saNil))))))) saNil)))) (sxVar 4))) (ssRet (sxC (.bl false))) ssNil) (ssSeq (ssSet 4 (sxN vTup (saCons (sxN vTup (saCons (sxC (.int 0)) (saCons (sxC (.int 1)) (saCons (sxC (.str "over")) saNil)))) (saCons (sxN vTup (saCons (sxC (.int 2)) (saCons (sxC (.int 0)) (saCons (sxC (.str "missed")) saNil)))) (saCons (sxN vTup (saCons (sxC (.int 2)) (saCons (sxC (.int 1)) (saCons (sxC (.str "missed")) saNil)))) saNil))))) (ssRet (sxAnd (sx2 vEq (sxCall 3 m_arrows (saCons (sxVar 3) (saCons (sxN vTup (saCons (sxC (.str "late")) (saCons (sxC (.str "guarded")) (saCons (sxC (.str "early")) saNil)))) (saCons (sxN vTup (saCons (sxC (.int 0)) (saCons (sxC (.int 2)) (saCons (sxC (.int 0)) (saCons (sxC (.int 1)) (saCons (sxC (.int 1)) (saCons (sxC (.int 2)) saNil))))))) saNil)))) (sxVar 4)) (sxCall 0 m_l_more saNil)))))))))))))
def p_l_hand : List PV → RR PV := pureF (bodyF 5 t_l_hand)
def m_l_hand : Fs := liftP p_l_hand
def t_law_1 : Ss := (ssEnd [4, 5] (ssSeq (ssSet 5 (sxCall 2 m_l_course (saCons (sxVar 2) (saCons (sxVar 3) saNil)))) (ssIf (stOr (stNot (stB (sxCall 3 m_l_right (saCons (sxVar 3) (saCons (sxCall 2 m_l_tiers (saCons (sxVar 2) (saCons (sxVar 3) saNil))) (saCons (sxVar 5) saNil)))))) (stNot (stB (sxCall 3 m_l_right (saCons (sxVar 3) (saCons (sxCall 2 m_l_tiers (saCons (sxVar 2) (saCons (sxVar 3) saNil))) (saCons (sxVar 5) saNil))))))) (ssRet (sxC (.bl false))) ssNil)))
def t_law_2 : Ss := (ssEnd [5] (ssIf (stNot (stB (sxCall 3 m_l_right (saCons (sxVar 6) (saCons (sxVar 7) (saCons (sxVar 5) saNil)))))) (ssRet (sxC (.bl false))) ssNil))
def t_law_3 : Ss := (ssEnd [1, 2, 3, 4, 5, 6, 7] (ssSeq (ssSet 2 (sxCall 2 m_l_begun (saCons (sxVar 0) (saCons (sxVar 1) saNil)))) (ssSeq (ssSet 3 (sxCall 3 m_l_crew (saCons (sxVar 2) (saCons (sxC (.int 5)) (saCons (sxC (.int 5)) saNil))))) (ssSeq (ssWp [4, 5] (ssFor (siRange1 (sxC (.int 6))) (sgName 4) t_law_1)) (ssSeq (ssSet 6 (sxCall 3 m_l_crew (saCons (sxVar 2) (saCons (sxC (.int 2)) (saCons (sxC (.int 3)) saNil))))) (ssSeq (ssSet 7 (sxCall 2 m_l_tiers (saCons (sxVar 2) (saCons (sxVar 6) saNil)))) (ssWp [5] (ssFor (siSeq (sxCall 1 m_l_all_courses (saCons (sxVar 6) saNil))) (sgName 5) t_law_2))))))))
def t_law : Ss := (ssSeq (ssWp [1, 2, 3, 4, 5, 6, 7] (ssFor (siRange1 (sx2 vAdd (sxC (.int 3)) (sxN vMin2 (saCons (sxN vLen (saCons (sxVar 0) saNil)) (saCons (sxC (.int 6)) saNil))))) (sgName 1) t_law_3)) (ssRet (sxCall 0 m_l_hand saNil)))
def m_law : Fs := bodyF 8 t_law
end
end K06

end

section
/-! The law's own defs over data of Lean. -/
namespace K06
open PySem PySem.Spec PyProof.Rows L2 MX MS
def w_a : W := ⟨"a", by decide +kernel⟩
def w_ab : W := ⟨"ab", by decide +kernel⟩
def w_b : W := ⟨"b", by decide +kernel⟩
def n_l_right (a0 : (List (List (W × W)))) (a1 : (List W)) (a2 : (List Int)) : RR Bool := RR.san (RR.bnd (reprR (eL eP) [((eV (eV (eT2 eS eS))) a0), ((eV eS) a1), ((eV eI) a2)]) fun v5 => RR.bnd (RR.bnd (RR.bnd (.ok a0) fun v1 => RR.bnd (.ok a1) fun v2 => RR.bnd (n_l_clocks a0 a2) fun v3 => n_l_arrows v1 v2 v3) fun v4 => RR.ok v4) fun v6 => (RR.bnd (RR.bnd (RR.bnd (n_arrows a0 a1 a2) fun v9 => RR.bnd (RR.bnd (n_arrows a0 a1 a2) fun v7 => RR.bnd (.ok []) fun v8 => .ok (v7 :: v8)) fun v10 => .ok (v9 :: v10)) fitR) fun v11 => (RR.bnd (RR.bnd (reprR (eL (eV (eT3 eI eI eS))) v11) fun v12 => RR.bnd (reprR (eL (eV (eT3 eI eI eS))) [v6, v6]) fun v13 => RR.ok (eqB v12 v13)) fun v16 => if v16 = true then (RR.bnd (reprR (eL eP) [((eV (eV (eT2 eS eS))) a0), ((eV eS) a1), ((eV eI) a2)]) fun v14 => RR.bnd (.ok v5) fun v15 => RR.ok (eqB v14 v15)) else .ok false)))
theorem x_l_right (a0 : (List (List (W × W)))) (a1 : (List W)) (a2 : (List Int)) : RV (p_l_right [(eV (eV (eT2 eS eS))) a0, (eV eS) a1, (eV eI) a2]) (n_l_right a0 a1 a2) eB := rv_fn (t := t_l_right) (by simp only [belows, RF.b, Bool.and_self]) (gv_par (ev_n1p (f := fun (x : (List PV)) => (reprR (eL eP) x)) (o_repr (e := (eL eP))) (ev_llk (av_const (ev_anyt (ev_var (ea := (eV (eV (eT2 eS eS)))) (a := a0) rfl)) (av_const (ev_anyt (ev_var (ea := (eV eS)) (a := a1) rfl)) (av_const (ev_anyt (ev_var (ea := (eV eI)) (a := a2) rfl)) (av_nilm (e := eP))))) rfl)) (ev_n1 (f := fun (x : (List (Int × Int × W))) => RR.ok x) (o_tupleL (e := (eT3 eI eI eS))) (ev_call3 x_l_arrows (ev_var (ea := (eV (eV (eT2 eS eS)))) (a := a0) rfl) (ev_var (ea := (eV eS)) (a := a1) rfl) (ev_call2t x_l_clocks (ev_var (ea := (eV (eV (eT2 eS eS)))) (a := a0) rfl) (ev_var (ea := (eV eI)) (a := a2) rfl)))) (fun v5 v6 => (gv_set (ev_ll (av_consm (ev_call3t x_arrows (ev_var (ea := (eV (eV (eT2 eS eS)))) (a := a0) rfl) (ev_var (ea := (eV eS)) (a := a1) rfl) (ev_var (ea := (eV eI)) (a := a2) rfl)) (av_consm (ev_call3t x_arrows (ev_var (ea := (eV (eV (eT2 eS eS)))) (a := a0) rfl) (ev_var (ea := (eV eS)) (a := a1) rfl) (ev_var (ea := (eV eI)) (a := a2) rfl)) (av_nilm (e := (eV (eT3 eI eI eS))))))) (fun v11 => (gv_last (gv_retp (ev_and (ev_2 (f := fun (x : Str) (y : Str) => RR.ok (eqB x y)) o_eqR (ev_n1p (f := fun (x : (List (List (Int × Int × W)))) => (reprR (eL (eV (eT3 eI eI eS))) x)) (o_repr (e := (eL (eV (eT3 eI eI eS))))) (ev_var (ea := (eL (eV (eT3 eI eI eS)))) (a := v11) rfl)) (ev_n1p (f := fun (x : (List (List (Int × Int × W)))) => (reprR (eL (eV (eT3 eI eI eS))) x)) (o_repr (e := (eL (eV (eT3 eI eI eS))))) (ev_llk (av_const (ev_var (ea := (eV (eT3 eI eI eS))) (a := v6) rfl) (av_const (ev_var (ea := (eV (eT3 eI eI eS))) (a := v6) rfl) (av_nilm (e := (eV (eT3 eI eI eS)))))) rfl))) (ev_2 (f := fun (x : Str) (y : Str) => RR.ok (eqB x y)) o_eqR (ev_n1p (f := fun (x : (List PV)) => (reprR (eL eP) x)) (o_repr (e := (eL eP))) (ev_llk (av_const (ev_anyt (ev_var (ea := (eV (eV (eT2 eS eS)))) (a := a0) rfl)) (av_const (ev_anyt (ev_var (ea := (eV eS)) (a := a1) rfl)) (av_const (ev_anyt (ev_var (ea := (eV eI)) (a := a2) rfl)) (av_nilm (e := eP))))) rfl)) (ev_var (ea := eR) (a := v5) rfl)))))))))
def n_l_more  : RR Bool := RR.san (RR.bnd (RR.bnd (n_arrows [[(w_mark, w_a), (w_mark, w_b)], [(w_mark, w_a)]] [w_late, w_late] [(0 : Int), (1 : Int), (1 : Int), (0 : Int), (0 : Int)]) fun v1 => RR.bnd (.ok [((1 : Int), (0 : Int), w_over)]) fun v2 => RR.ok (!eqB v1 v2)) fun v12 => if v12 = true then .ok false else (RR.bnd (.ok [[(w_look, w_a), (w_mark, w_b)], [(w_look, w_ab)], [(w_look, w_b)]]) fun v3 => (RR.bnd (RR.bnd (RR.bnd (.ok v3) fun v4 => RR.bnd (mulV [w_early] (3 : Int)) fun v5 => RR.bnd (.ok [(0 : Int), (0 : Int), (0 : Int), (1 : Int), (1 : Int), (2 : Int), (2 : Int)]) fun v6 => n_arrows v4 v5 v6) fun v7 => RR.bnd (.ok [((0 : Int), (2 : Int), w_shown)]) fun v8 => RR.ok (!eqB v7 v8)) fun v11 => if v11 = true then .ok false else (RR.bnd (n_arrows [[(w_look, w_a), (w_mark, w_a)]] [w_late] [(0 : Int), (0 : Int), (0 : Int)]) fun v9 => RR.bnd (.ok ([] : (List (Int × Int × W)))) fun v10 => RR.ok (eqB v9 v10)))))
theorem x_l_more  : RV (p_l_more []) (n_l_more ) eB := rv_fn (t := t_l_more) (by simp only [belows, RF.b, Bool.and_self]) (gv_sett (ev_tvk (av_const (ev_tvk (av_const (ev_t2t (ev_c (ea := eS) (a := w_mark) rfl) (ev_c (ea := eS) (a := w_a) rfl)) (av_const (ev_t2t (ev_c (ea := eS) (a := w_mark) rfl) (ev_c (ea := eS) (a := w_b) rfl)) (av_nilm (e := (eT2 eS eS))))) rfl) (av_const (ev_tvk (av_const (ev_t2t (ev_c (ea := eS) (a := w_mark) rfl) (ev_c (ea := eS) (a := w_a) rfl)) (av_nilm (e := (eT2 eS eS)))) rfl) (av_nilm (e := (eV (eT2 eS eS)))))) rfl) (gv_if (tv_val (ev_2 (f := fun (x : (List (Int × Int × W))) (y : (List (Int × Int × W))) => RR.ok (!eqB x y)) (o_ne (e := (eV (eT3 eI eI eS)))) (ev_call3t x_arrows (ev_var (ea := (eV (eV (eT2 eS eS)))) (a := [[(w_mark, w_a), (w_mark, w_b)], [(w_mark, w_a)]]) rfl) (ev_tvk (av_const (ev_c (ea := eS) (a := w_late) rfl) (av_const (ev_c (ea := eS) (a := w_late) rfl) (av_nilm (e := eS)))) rfl) (ev_tvk (av_const (ev_c (ea := eI) (a := 0) rfl) (av_const (ev_c (ea := eI) (a := 1) rfl) (av_const (ev_c (ea := eI) (a := 1) rfl) (av_const (ev_c (ea := eI) (a := 0) rfl) (av_const (ev_c (ea := eI) (a := 0) rfl) (av_nilm (e := eI))))))) rfl)) (ev_tvk (av_const (ev_t3t (ev_c (ea := eI) (a := 1) rfl) (ev_c (ea := eI) (a := 0) rfl) (ev_c (ea := eS) (a := w_over) rfl)) (av_nilm (e := (eT3 eI eI eS)))) rfl))) (gv_rett (ev_c (ea := eB) (a := false) rfl) jf_rt) (gv_skip (gv_set (ev_tvk (av_const (ev_tvk (av_const (ev_t2t (ev_c (ea := eS) (a := w_look) rfl) (ev_c (ea := eS) (a := w_a) rfl)) (av_const (ev_t2t (ev_c (ea := eS) (a := w_mark) rfl) (ev_c (ea := eS) (a := w_b) rfl)) (av_nilm (e := (eT2 eS eS))))) rfl) (av_const (ev_tvk (av_const (ev_t2t (ev_c (ea := eS) (a := w_look) rfl) (ev_c (ea := eS) (a := w_ab) rfl)) (av_nilm (e := (eT2 eS eS)))) rfl) (av_const (ev_tvk (av_const (ev_t2t (ev_c (ea := eS) (a := w_look) rfl) (ev_c (ea := eS) (a := w_b) rfl)) (av_nilm (e := (eT2 eS eS)))) rfl) (av_nilm (e := (eV (eT2 eS eS))))))) rfl) (fun v3 => (gv_if (tv_val (ev_2 (f := fun (x : (List (Int × Int × W))) (y : (List (Int × Int × W))) => RR.ok (!eqB x y)) (o_ne (e := (eV (eT3 eI eI eS)))) (ev_call3 x_arrows (ev_var (ea := (eV (eV (eT2 eS eS)))) (a := v3) rfl) (ev_2p (f := fun (x : (List W)) (y : Int) => (mulV x y)) (o_mulV (e := eS)) (ev_tvk (av_const (ev_c (ea := eS) (a := w_early) rfl) (av_nilm (e := eS))) rfl) (ev_c (ea := eI) (a := 3) rfl)) (ev_tvk (av_const (ev_c (ea := eI) (a := 0) rfl) (av_const (ev_c (ea := eI) (a := 0) rfl) (av_const (ev_c (ea := eI) (a := 0) rfl) (av_const (ev_c (ea := eI) (a := 1) rfl) (av_const (ev_c (ea := eI) (a := 1) rfl) (av_const (ev_c (ea := eI) (a := 2) rfl) (av_const (ev_c (ea := eI) (a := 2) rfl) (av_nilm (e := eI))))))))) rfl)) (ev_tvk (av_const (ev_t3t (ev_c (ea := eI) (a := 0) rfl) (ev_c (ea := eI) (a := 2) rfl) (ev_c (ea := eS) (a := w_shown) rfl)) (av_nilm (e := (eT3 eI eI eS)))) rfl))) (gv_rett (ev_c (ea := eB) (a := false) rfl) jf_rt) (gv_skip (gv_last (gv_retp (ev_2 (f := fun (x : (List (Int × Int × W))) (y : (List (Int × Int × W))) => RR.ok (eqB x y)) (o_eq (e := (eV (eT3 eI eI eS)))) (ev_call3t x_arrows (ev_tvk (av_const (ev_tvk (av_const (ev_t2t (ev_c (ea := eS) (a := w_look) rfl) (ev_c (ea := eS) (a := w_a) rfl)) (av_const (ev_t2t (ev_c (ea := eS) (a := w_mark) rfl) (ev_c (ea := eS) (a := w_a) rfl)) (av_nilm (e := (eT2 eS eS))))) rfl) (av_nilm (e := (eV (eT2 eS eS))))) rfl) (ev_tvk (av_const (ev_c (ea := eS) (a := w_late) rfl) (av_nilm (e := eS))) rfl) (ev_tvk (av_const (ev_c (ea := eI) (a := 0) rfl) (av_const (ev_c (ea := eI) (a := 0) rfl) (av_const (ev_c (ea := eI) (a := 0) rfl) (av_nilm (e := eI))))) rfl)) (ev_tv0 (e := (eT3 eI eI eS)))))))))))))
def n_l_hand  : RR Bool := RR.san (RR.bnd (mulV [[(w_look, w_a), (w_mark, w_a)]] (2 : Int)) fun v1 => (RR.bnd (RR.bnd (RR.bnd (n_arrows v1 [w_late, w_late] [(0 : Int), (0 : Int), (0 : Int), (1 : Int), (1 : Int), (1 : Int)]) fun v4 => RR.bnd (RR.bnd (n_arrows v1 [w_late, w_early] [(0 : Int), (1 : Int), (0 : Int), (1 : Int), (0 : Int), (1 : Int)]) fun v2 => RR.bnd (.ok []) fun v3 => .ok (v2 :: v3)) fun v5 => .ok (v4 :: v5)) fitR) fun v6 => (RR.bnd (.ok [((0 : Int), (1 : Int), w_missed), ((0 : Int), (1 : Int), w_over), ((1 : Int), (0 : Int), w_missed)]) fun v7 => (if (!eqB v6 [[((0 : Int), (1 : Int), w_missed), ((0 : Int), (1 : Int), w_over), ((0 : Int), (1 : Int), w_shown)], v7]) = true then .ok false else (RR.bnd (.ok [((0 : Int), (1 : Int), w_over), ((0 : Int), (2 : Int), w_shown), ((1 : Int), (2 : Int), w_shown)]) fun v8 => (RR.bnd (RR.bnd (RR.bnd (.ok [[(w_mark, w_a)], [(w_mark, w_a)], [(w_look, w_a)]]) fun v9 => RR.bnd (mulV [w_late] (3 : Int)) fun v10 => RR.bnd (.ok [(0 : Int), (0 : Int), (1 : Int), (1 : Int), (2 : Int), (2 : Int)]) fun v11 => n_arrows v9 v10 v11) fun v12 => RR.bnd (.ok v8) fun v13 => RR.ok (!eqB v12 v13)) fun v25 => if v25 = true then .ok false else (RR.bnd (.ok [((0 : Int), (1 : Int), w_over), ((0 : Int), (2 : Int), w_shown), ((2 : Int), (1 : Int), w_missed)]) fun v14 => (RR.bnd (RR.bnd (RR.bnd (.ok [[(w_mark, w_a)], [(w_mark, w_a)], [(w_look, w_a)]]) fun v15 => RR.bnd (mulV [w_late] (3 : Int)) fun v16 => RR.bnd (.ok [(1 : Int), (0 : Int), (0 : Int), (2 : Int), (1 : Int), (2 : Int)]) fun v17 => n_arrows v15 v16 v17) fun v18 => RR.bnd (.ok v14) fun v19 => RR.ok (!eqB v18 v19)) fun v24 => if v24 = true then .ok false else (RR.bnd (.ok [((0 : Int), (1 : Int), w_over), ((2 : Int), (0 : Int), w_missed), ((2 : Int), (1 : Int), w_missed)]) fun v20 => (RR.bnd (RR.bnd (n_arrows [[(w_mark, w_a)], [(w_mark, w_a)], [(w_look, w_a)]] [w_late, w_guarded, w_early] [(0 : Int), (2 : Int), (0 : Int), (1 : Int), (1 : Int), (2 : Int)]) fun v21 => RR.bnd (.ok v20) fun v22 => RR.ok (eqB v21 v22)) fun v23 => if v23 = true then n_l_more else .ok false))))))))))
theorem x_l_hand  : RV (p_l_hand []) (n_l_hand ) eB := rv_fn (t := t_l_hand) (by simp only [belows, RF.b, Bool.and_self]) (gv_set (ev_2p (f := fun (x : (List (List (W × W)))) (y : Int) => (mulV x y)) (o_mulV (e := (eV (eT2 eS eS)))) (ev_tvk (av_const (ev_tvk (av_const (ev_t2t (ev_c (ea := eS) (a := w_look) rfl) (ev_c (ea := eS) (a := w_a) rfl)) (av_const (ev_t2t (ev_c (ea := eS) (a := w_mark) rfl) (ev_c (ea := eS) (a := w_a) rfl)) (av_nilm (e := (eT2 eS eS))))) rfl) (av_nilm (e := (eV (eT2 eS eS))))) rfl) (ev_c (ea := eI) (a := 2) rfl)) (fun v1 => (gv_set (ev_ll (av_consm (ev_call3t x_arrows (ev_var (ea := (eV (eV (eT2 eS eS)))) (a := v1) rfl) (ev_tvk (av_const (ev_c (ea := eS) (a := w_late) rfl) (av_const (ev_c (ea := eS) (a := w_late) rfl) (av_nilm (e := eS)))) rfl) (ev_tvk (av_const (ev_c (ea := eI) (a := 0) rfl) (av_const (ev_c (ea := eI) (a := 0) rfl) (av_const (ev_c (ea := eI) (a := 0) rfl) (av_const (ev_c (ea := eI) (a := 1) rfl) (av_const (ev_c (ea := eI) (a := 1) rfl) (av_const (ev_c (ea := eI) (a := 1) rfl) (av_nilm (e := eI)))))))) rfl)) (av_consm (ev_call3t x_arrows (ev_var (ea := (eV (eV (eT2 eS eS)))) (a := v1) rfl) (ev_tvk (av_const (ev_c (ea := eS) (a := w_late) rfl) (av_const (ev_c (ea := eS) (a := w_early) rfl) (av_nilm (e := eS)))) rfl) (ev_tvk (av_const (ev_c (ea := eI) (a := 0) rfl) (av_const (ev_c (ea := eI) (a := 1) rfl) (av_const (ev_c (ea := eI) (a := 0) rfl) (av_const (ev_c (ea := eI) (a := 1) rfl) (av_const (ev_c (ea := eI) (a := 0) rfl) (av_const (ev_c (ea := eI) (a := 1) rfl) (av_nilm (e := eI)))))))) rfl)) (av_nilm (e := (eV (eT3 eI eI eS))))))) (fun v6 => (gv_set (ev_tvk (av_const (ev_t3t (ev_c (ea := eI) (a := 0) rfl) (ev_c (ea := eI) (a := 1) rfl) (ev_c (ea := eS) (a := w_missed) rfl)) (av_const (ev_t3t (ev_c (ea := eI) (a := 0) rfl) (ev_c (ea := eI) (a := 1) rfl) (ev_c (ea := eS) (a := w_over) rfl)) (av_const (ev_t3t (ev_c (ea := eI) (a := 1) rfl) (ev_c (ea := eI) (a := 0) rfl) (ev_c (ea := eS) (a := w_missed) rfl)) (av_nilm (e := (eT3 eI eI eS)))))) rfl) (fun v7 => (gv_ift (tv_val (ev_2t (g := fun (x : (List (List (Int × Int × W)))) (y : (List (List (Int × Int × W)))) => (!eqB x y)) (o_ne (e := (eL (eV (eT3 eI eI eS))))) (ev_var (ea := (eL (eV (eT3 eI eI eS)))) (a := v6) rfl) (ev_llk (av_const (ev_tvk (av_const (ev_t3t (ev_c (ea := eI) (a := 0) rfl) (ev_c (ea := eI) (a := 1) rfl) (ev_c (ea := eS) (a := w_missed) rfl)) (av_const (ev_t3t (ev_c (ea := eI) (a := 0) rfl) (ev_c (ea := eI) (a := 1) rfl) (ev_c (ea := eS) (a := w_over) rfl)) (av_const (ev_t3t (ev_c (ea := eI) (a := 0) rfl) (ev_c (ea := eI) (a := 1) rfl) (ev_c (ea := eS) (a := w_shown) rfl)) (av_nilm (e := (eT3 eI eI eS)))))) rfl) (av_const (ev_var (ea := (eV (eT3 eI eI eS))) (a := v7) rfl) (av_nilm (e := (eV (eT3 eI eI eS)))))) rfl))) (gv_rett (ev_c (ea := eB) (a := false) rfl) jf_rt) (gv_skip (gv_sett (ev_tvk (av_const (ev_tvk (av_const (ev_t2t (ev_c (ea := eS) (a := w_mark) rfl) (ev_c (ea := eS) (a := w_a) rfl)) (av_nilm (e := (eT2 eS eS)))) rfl) (av_const (ev_tvk (av_const (ev_t2t (ev_c (ea := eS) (a := w_mark) rfl) (ev_c (ea := eS) (a := w_a) rfl)) (av_nilm (e := (eT2 eS eS)))) rfl) (av_const (ev_tvk (av_const (ev_t2t (ev_c (ea := eS) (a := w_look) rfl) (ev_c (ea := eS) (a := w_a) rfl)) (av_nilm (e := (eT2 eS eS)))) rfl) (av_nilm (e := (eV (eT2 eS eS))))))) rfl) (gv_set (ev_tvk (av_const (ev_t3t (ev_c (ea := eI) (a := 0) rfl) (ev_c (ea := eI) (a := 1) rfl) (ev_c (ea := eS) (a := w_over) rfl)) (av_const (ev_t3t (ev_c (ea := eI) (a := 0) rfl) (ev_c (ea := eI) (a := 2) rfl) (ev_c (ea := eS) (a := w_shown) rfl)) (av_const (ev_t3t (ev_c (ea := eI) (a := 1) rfl) (ev_c (ea := eI) (a := 2) rfl) (ev_c (ea := eS) (a := w_shown) rfl)) (av_nilm (e := (eT3 eI eI eS)))))) rfl) (fun v8 => (gv_if (tv_val (ev_2 (f := fun (x : (List (Int × Int × W))) (y : (List (Int × Int × W))) => RR.ok (!eqB x y)) (o_ne (e := (eV (eT3 eI eI eS)))) (ev_call3 x_arrows (ev_var (ea := (eV (eV (eT2 eS eS)))) (a := [[(w_mark, w_a)], [(w_mark, w_a)], [(w_look, w_a)]]) rfl) (ev_2p (f := fun (x : (List W)) (y : Int) => (mulV x y)) (o_mulV (e := eS)) (ev_tvk (av_const (ev_c (ea := eS) (a := w_late) rfl) (av_nilm (e := eS))) rfl) (ev_c (ea := eI) (a := 3) rfl)) (ev_tvk (av_const (ev_c (ea := eI) (a := 0) rfl) (av_const (ev_c (ea := eI) (a := 0) rfl) (av_const (ev_c (ea := eI) (a := 1) rfl) (av_const (ev_c (ea := eI) (a := 1) rfl) (av_const (ev_c (ea := eI) (a := 2) rfl) (av_const (ev_c (ea := eI) (a := 2) rfl) (av_nilm (e := eI)))))))) rfl)) (ev_var (ea := (eV (eT3 eI eI eS))) (a := v8) rfl))) (gv_rett (ev_c (ea := eB) (a := false) rfl) jf_rt) (gv_skip (gv_set (ev_tvk (av_const (ev_t3t (ev_c (ea := eI) (a := 0) rfl) (ev_c (ea := eI) (a := 1) rfl) (ev_c (ea := eS) (a := w_over) rfl)) (av_const (ev_t3t (ev_c (ea := eI) (a := 0) rfl) (ev_c (ea := eI) (a := 2) rfl) (ev_c (ea := eS) (a := w_shown) rfl)) (av_const (ev_t3t (ev_c (ea := eI) (a := 2) rfl) (ev_c (ea := eI) (a := 1) rfl) (ev_c (ea := eS) (a := w_missed) rfl)) (av_nilm (e := (eT3 eI eI eS)))))) rfl) (fun v14 => (gv_if (tv_val (ev_2 (f := fun (x : (List (Int × Int × W))) (y : (List (Int × Int × W))) => RR.ok (!eqB x y)) (o_ne (e := (eV (eT3 eI eI eS)))) (ev_call3 x_arrows (ev_var (ea := (eV (eV (eT2 eS eS)))) (a := [[(w_mark, w_a)], [(w_mark, w_a)], [(w_look, w_a)]]) rfl) (ev_2p (f := fun (x : (List W)) (y : Int) => (mulV x y)) (o_mulV (e := eS)) (ev_tvk (av_const (ev_c (ea := eS) (a := w_late) rfl) (av_nilm (e := eS))) rfl) (ev_c (ea := eI) (a := 3) rfl)) (ev_tvk (av_const (ev_c (ea := eI) (a := 1) rfl) (av_const (ev_c (ea := eI) (a := 0) rfl) (av_const (ev_c (ea := eI) (a := 0) rfl) (av_const (ev_c (ea := eI) (a := 2) rfl) (av_const (ev_c (ea := eI) (a := 1) rfl) (av_const (ev_c (ea := eI) (a := 2) rfl) (av_nilm (e := eI)))))))) rfl)) (ev_var (ea := (eV (eT3 eI eI eS))) (a := v14) rfl))) (gv_rett (ev_c (ea := eB) (a := false) rfl) jf_rt) (gv_skip (gv_set (ev_tvk (av_const (ev_t3t (ev_c (ea := eI) (a := 0) rfl) (ev_c (ea := eI) (a := 1) rfl) (ev_c (ea := eS) (a := w_over) rfl)) (av_const (ev_t3t (ev_c (ea := eI) (a := 2) rfl) (ev_c (ea := eI) (a := 0) rfl) (ev_c (ea := eS) (a := w_missed) rfl)) (av_const (ev_t3t (ev_c (ea := eI) (a := 2) rfl) (ev_c (ea := eI) (a := 1) rfl) (ev_c (ea := eS) (a := w_missed) rfl)) (av_nilm (e := (eT3 eI eI eS)))))) rfl) (fun v20 => (gv_last (gv_retp (ev_and (ev_2 (f := fun (x : (List (Int × Int × W))) (y : (List (Int × Int × W))) => RR.ok (eqB x y)) (o_eq (e := (eV (eT3 eI eI eS)))) (ev_call3t x_arrows (ev_var (ea := (eV (eV (eT2 eS eS)))) (a := [[(w_mark, w_a)], [(w_mark, w_a)], [(w_look, w_a)]]) rfl) (ev_tvk (av_const (ev_c (ea := eS) (a := w_late) rfl) (av_const (ev_c (ea := eS) (a := w_guarded) rfl) (av_const (ev_c (ea := eS) (a := w_early) rfl) (av_nilm (e := eS))))) rfl) (ev_tvk (av_const (ev_c (ea := eI) (a := 0) rfl) (av_const (ev_c (ea := eI) (a := 2) rfl) (av_const (ev_c (ea := eI) (a := 0) rfl) (av_const (ev_c (ea := eI) (a := 1) rfl) (av_const (ev_c (ea := eI) (a := 1) rfl) (av_const (ev_c (ea := eI) (a := 2) rfl) (av_nilm (e := eI)))))))) rfl)) (ev_var (ea := (eV (eT3 eI eI eS))) (a := v20) rfl)) (ev_call0 x_l_more)))))))))))))))))))))))
end K06

end

section
namespace K06
open PySem PySem.Spec PyProof.Rows L2 MX MS
def top (i : Nat) : Stmt := PySem.Challenge.pw_mixedlevels_k06_whole_arrows.main.body.getD i (.Pass ⟨0, 0, 0, 0⟩)
structure Txt (K : PySem.W.Frag) (mg : Str → Option Value) : Prop where
  f_all : mg "all" = none
  f_bool : mg "bool" = none
  f_enumerate : mg "enumerate" = none
  f_int : mg "int" = none
  f_isinstance : mg "isinstance" = none
  f_len : mg "len" = none
  f_list : mg "list" = none
  f_max : mg "max" = none
  f_min : mg "min" = none
  f_range : mg "range" = none
  f_repr : mg "repr" = none
  f_sorted : mg "sorted" = none
  f_str : mg "str" = none
  f_sum : mg "sum" = none
  f_tuple : mg "tuple" = none
  c_LATE : ∃ t, mg "LATE" = some (.str "late" t)
  c_LETTERS : ∃ t, mg "LETTERS" = some (.str "abcdefghijklmnopqrstuvwxyz" t)
  c_LEVELS : ∃ a, mg "LEVELS" = some (.ref a) ∧ ∀ H, SqT K H a [V.str "late", V.str "early", V.str "guarded"]
  c_LOOK : ∃ t, mg "LOOK" = some (.str "look" t)
  c_MARK : ∃ t, mg "MARK" = some (.str "mark" t)
  c_MISSED : ∃ t, mg "MISSED" = some (.str "missed" t)
  c_MOST_DEEDS : ∃ t, mg "MOST_DEEDS" = some (.int 5 t)
  c_MOST_LETTERS : ∃ t, mg "MOST_LETTERS" = some (.int 3 t)
  c_MOST_STEPS : ∃ t, mg "MOST_STEPS" = some (.int 5 t)
  c_OVER : ∃ t, mg "OVER" = some (.str "over" t)
  c_SHOWN : ∃ t, mg "SHOWN" = some (.str "shown" t)
  g_is_whole : mg "is_whole" = some (.ref (He.ga K "is_whole"))
  F_is_whole : FunD K "is_whole" "is_whole" (defArgs (top 16)) (defBody (top 16)) (defScope (top 16)) [] [] (He.ga K "is_whole") (fdOf K (He.ga K "is_whole"))
  b_is_whole : Binds K (fdOf K (He.ga K "is_whole")) ["value", "least", "most"] []
  g_is_thing : mg "is_thing" = some (.ref (He.ga K "is_thing"))
  F_is_thing : FunD K "is_thing" "is_thing" (defArgs (top 17)) (defBody (top 17)) (defScope (top 17)) [] [] (He.ga K "is_thing") (fdOf K (He.ga K "is_thing"))
  b_is_thing : Binds K (fdOf K (He.ga K "is_thing")) ["value"] []
  g_is_step : mg "is_step" = some (.ref (He.ga K "is_step"))
  F_is_step : FunD K "is_step" "is_step" (defArgs (top 18)) (defBody (top 18)) (defScope (top 18)) [] [] (He.ga K "is_step") (fdOf K (He.ga K "is_step"))
  b_is_step : Binds K (fdOf K (He.ga K "is_step")) ["value"] []
  g_can_follow : mg "can_follow" = some (.ref (He.ga K "can_follow"))
  F_can_follow : FunD K "can_follow" "can_follow" (defArgs (top 19)) (defBody (top 19)) (defScope (top 19)) [] [] (He.ga K "can_follow") (fdOf K (He.ga K "can_follow"))
  b_can_follow : Binds K (fdOf K (He.ga K "can_follow")) ["steps", "value"] []
  g_wrong_step : mg "wrong_step" = some (.ref (He.ga K "wrong_step"))
  F_wrong_step : FunD K "wrong_step" "wrong_step" (defArgs (top 20)) (defBody (top 20)) (defScope (top 20)) [] [] (He.ga K "wrong_step") (fdOf K (He.ga K "wrong_step"))
  b_wrong_step : Binds K (fdOf K (He.ga K "wrong_step")) ["value"] []
  g_wrong_place : mg "wrong_place" = some (.ref (He.ga K "wrong_place"))
  F_wrong_place : FunD K "wrong_place" "wrong_place" (defArgs (top 21)) (defBody (top 21)) (defScope (top 21)) [] [] (He.ga K "wrong_place") (fdOf K (He.ga K "wrong_place"))
  b_wrong_place : Binds K (fdOf K (He.ga K "wrong_place")) ["value"] []
  g_need_lot : mg "need_lot" = some (.ref (He.ga K "need_lot"))
  F_need_lot : FunD K "need_lot" "need_lot" (defArgs (top 22)) (defBody (top 22)) (defScope (top 22)) [] [] (He.ga K "need_lot") (fdOf K (He.ga K "need_lot"))
  b_need_lot : Binds K (fdOf K (He.ga K "need_lot")) ["thing"] []
  g_are_levels : mg "are_levels" = some (.ref (He.ga K "are_levels"))
  F_are_levels : FunD K "are_levels" "are_levels" (defArgs (top 23)) (defBody (top 23)) (defScope (top 23)) [] [] (He.ga K "are_levels") (fdOf K (He.ga K "are_levels"))
  b_are_levels : Binds K (fdOf K (He.ga K "are_levels")) ["lot", "value"] []
  g_need_levels : mg "need_levels" = some (.ref (He.ga K "need_levels"))
  F_need_levels : FunD K "need_levels" "need_levels" (defArgs (top 24)) (defBody (top 24)) (defScope (top 24)) [] [] (He.ga K "need_levels") (fdOf K (He.ga K "need_levels"))
  b_need_levels : Binds K (fdOf K (He.ga K "need_levels")) ["lot", "levels"] []
  g_things_in : mg "things_in" = some (.ref (He.ga K "things_in"))
  F_things_in : FunD K "things_in" "things_in" (defArgs (top 25)) (defBody (top 25)) (defScope (top 25)) [] [] (He.ga K "things_in") (fdOf K (He.ga K "things_in"))
  b_things_in : Binds K (fdOf K (He.ga K "things_in")) ["deed", "what"] []
  g_wrong_spot : mg "wrong_spot" = some (.ref (He.ga K "wrong_spot"))
  F_wrong_spot : FunD K "wrong_spot" "wrong_spot" (defArgs (top 27)) (defBody (top 27)) (defScope (top 27)) [] [] (He.ga K "wrong_spot") (fdOf K (He.ga K "wrong_spot"))
  b_wrong_spot : Binds K (fdOf K (He.ga K "wrong_spot")) ["lot", "value"] []
  g_need_run : mg "need_run" = some (.ref (He.ga K "need_run"))
  F_need_run : FunD K "need_run" "need_run" (defArgs (top 28)) (defBody (top 28)) (defScope (top 28)) [] [] (He.ga K "need_run") (fdOf K (He.ga K "need_run"))
  b_need_run : Binds K (fdOf K (He.ga K "need_run")) ["lot", "run"] []
  g_times_of : mg "times_of" = some (.ref (He.ga K "times_of"))
  F_times_of : FunD K "times_of" "times_of" (defArgs (top 29)) (defBody (top 29)) (defScope (top 29)) [] [] (He.ga K "times_of") (fdOf K (He.ga K "times_of"))
  b_times_of : Binds K (fdOf K (He.ga K "times_of")) ["lot", "run"] []
  g_need_all : mg "need_all" = some (.ref (He.ga K "need_all"))
  F_need_all : FunD K "need_all" "need_all" (defArgs (top 34)) (defBody (top 34)) (defScope (top 34)) [] [] (He.ga K "need_all") (fdOf K (He.ga K "need_all"))
  b_need_all : Binds K (fdOf K (He.ga K "need_all")) ["lot", "levels", "run"] []
  g_markers : mg "markers" = some (.ref (He.ga K "markers"))
  F_markers : FunD K "markers" "markers" (defArgs (top 35)) (defBody (top 35)) (defScope (top 35)) [] [] (He.ga K "markers") (fdOf K (He.ga K "markers"))
  b_markers : Binds K (fdOf K (He.ga K "markers")) ["lot", "deed", "thing"] []
  g_sight_of : mg "sight_of" = some (.ref (He.ga K "sight_of"))
  F_sight_of : FunD K "sight_of" "sight_of" (defArgs (top 36)) (defBody (top 36)) (defScope (top 36)) [] [] (He.ga K "sight_of") (fdOf K (He.ga K "sight_of"))
  b_sight_of : Binds K (fdOf K (He.ga K "sight_of")) ["lot", "levels", "times", "deed", "place"] []
  g_seen_in : mg "seen_in" = some (.ref (He.ga K "seen_in"))
  F_seen_in : FunD K "seen_in" "seen_in" (defArgs (top 37)) (defBody (top 37)) (defScope (top 37)) [] [] (He.ga K "seen_in") (fdOf K (He.ga K "seen_in"))
  b_seen_in : Binds K (fdOf K (He.ga K "seen_in")) ["lot", "levels", "times"] []
  g_look_arrows : mg "look_arrows" = some (.ref (He.ga K "look_arrows"))
  F_look_arrows : FunD K "look_arrows" "look_arrows" (defArgs (top 38)) (defBody (top 38)) (defScope (top 38)) [] [] (He.ga K "look_arrows") (fdOf K (He.ga K "look_arrows"))
  b_look_arrows : Binds K (fdOf K (He.ga K "look_arrows")) ["lot", "times", "triple"] []
  g_over_arrows : mg "over_arrows" = some (.ref (He.ga K "over_arrows"))
  F_over_arrows : FunD K "over_arrows" "over_arrows" (defArgs (top 39)) (defBody (top 39)) (defScope (top 39)) [] [] (He.ga K "over_arrows") (fdOf K (He.ga K "over_arrows"))
  b_over_arrows : Binds K (fdOf K (He.ga K "over_arrows")) ["lot", "times"] []
  g_arrows_in : mg "arrows_in" = some (.ref (He.ga K "arrows_in"))
  F_arrows_in : FunD K "arrows_in" "arrows_in" (defArgs (top 40)) (defBody (top 40)) (defScope (top 40)) [] [] (He.ga K "arrows_in") (fdOf K (He.ga K "arrows_in"))
  b_arrows_in : Binds K (fdOf K (He.ga K "arrows_in")) ["lot", "levels", "times"] []
  g_arrows : mg "arrows" = some (.ref (He.ga K "arrows"))
  F_arrows : FunD K "arrows" "arrows" (defArgs (top 41)) (defBody (top 41)) (defScope (top 41)) [] [] (He.ga K "arrows") (fdOf K (He.ga K "arrows"))
  b_arrows : Binds K (fdOf K (He.ga K "arrows")) ["lot", "levels", "run"] []
  g_l_begun : mg "_law_begun" = some (.ref (He.ga K "_law_begun"))
  F_l_begun : FunD K "_law_begun" "_law_begun" (defArgs (top 43)) (defBody (top 43)) (defScope (top 43)) [] [] (He.ga K "_law_begun") (fdOf K (He.ga K "_law_begun"))
  b_l_begun : Binds K (fdOf K (He.ga K "_law_begun")) ["_law_script", "_law_k"] []
  g_l_draw : mg "_law_draw" = some (.ref (He.ga K "_law_draw"))
  F_l_draw : FunD K "_law_draw" "_law_draw" (defArgs (top 44)) (defBody (top 44)) (defScope (top 44)) [] [] (He.ga K "_law_draw") (fdOf K (He.ga K "_law_draw"))
  b_l_draw : Binds K (fdOf K (He.ga K "_law_draw")) ["_law_m", "_law_many"] []
  g_l_of : mg "_law_of" = some (.ref (He.ga K "_law_of"))
  F_l_of : FunD K "_law_of" "_law_of" (defArgs (top 45)) (defBody (top 45)) (defScope (top 45)) [] [] (He.ga K "_law_of") (fdOf K (He.ga K "_law_of"))
  b_l_of : Binds K (fdOf K (He.ga K "_law_of")) ["_law_m", "_law_some"] []
  g_l_deed : mg "_law_deed" = some (.ref (He.ga K "_law_deed"))
  F_l_deed : FunD K "_law_deed" "_law_deed" (defArgs (top 46)) (defBody (top 46)) (defScope (top 46)) [] [] (He.ga K "_law_deed") (fdOf K (He.ga K "_law_deed"))
  b_l_deed : Binds K (fdOf K (He.ga K "_law_deed")) ["_law_m", "_law_words", "_law_long"] []
  g_l_crew : mg "_law_crew" = some (.ref (He.ga K "_law_crew"))
  F_l_crew : FunD K "_law_crew" "_law_crew" (defArgs (top 47)) (defBody (top 47)) (defScope (top 47)) [] [] (He.ga K "_law_crew") (fdOf K (He.ga K "_law_crew"))
  b_l_crew : Binds K (fdOf K (He.ga K "_law_crew")) ["_law_m", "_law_many", "_law_long"] []
  g_l_tiers : mg "_law_tiers" = some (.ref (He.ga K "_law_tiers"))
  F_l_tiers : FunD K "_law_tiers" "_law_tiers" (defArgs (top 48)) (defBody (top 48)) (defScope (top 48)) [] [] (He.ga K "_law_tiers") (fdOf K (He.ga K "_law_tiers"))
  b_l_tiers : Binds K (fdOf K (He.ga K "_law_tiers")) ["_law_m", "_law_crew_here"] []
  g_l_course : mg "_law_course" = some (.ref (He.ga K "_law_course"))
  F_l_course : FunD K "_law_course" "_law_course" (defArgs (top 49)) (defBody (top 49)) (defScope (top 49)) [] [] (He.ga K "_law_course") (fdOf K (He.ga K "_law_course"))
  b_l_course : Binds K (fdOf K (He.ga K "_law_course")) ["_law_m", "_law_crew_here"] []
  g_l_all_courses : mg "_law_all_courses" = some (.ref (He.ga K "_law_all_courses"))
  F_l_all_courses : FunD K "_law_all_courses" "_law_all_courses" (defArgs (top 50)) (defBody (top 50)) (defScope (top 50)) [] [] (He.ga K "_law_all_courses") (fdOf K (He.ga K "_law_all_courses"))
  b_l_all_courses : Binds K (fdOf K (He.ga K "_law_all_courses")) ["_law_crew_here"] []
  g_l_clocks : mg "_law_clocks" = some (.ref (He.ga K "_law_clocks"))
  F_l_clocks : FunD K "_law_clocks" "_law_clocks" (defArgs (top 51)) (defBody (top 51)) (defScope (top 51)) [] [] (He.ga K "_law_clocks") (fdOf K (He.ga K "_law_clocks"))
  b_l_clocks : Binds K (fdOf K (He.ga K "_law_clocks")) ["_law_crew_here", "_law_course_here"] []
  g_l_marks : mg "_law_marks" = some (.ref (He.ga K "_law_marks"))
  F_l_marks : FunD K "_law_marks" "_law_marks" (defArgs (top 52)) (defBody (top 52)) (defScope (top 52)) [] [] (He.ga K "_law_marks") (fdOf K (He.ga K "_law_marks"))
  b_l_marks : Binds K (fdOf K (He.ga K "_law_marks")) ["_law_deed_here", "_law_word"] []
  g_l_sight : mg "_law_sight" = some (.ref (He.ga K "_law_sight"))
  F_l_sight : FunD K "_law_sight" "_law_sight" (defArgs (top 53)) (defBody (top 53)) (defScope (top 53)) [] [] (He.ga K "_law_sight") (fdOf K (He.ga K "_law_sight"))
  b_l_sight : Binds K (fdOf K (He.ga K "_law_sight")) ["_law_crew_here", "_law_tiers_here", "_law_clocks_here", "_law_k", "_law_place"] []
  g_l_looks : mg "_law_looks" = some (.ref (He.ga K "_law_looks"))
  F_l_looks : FunD K "_law_looks" "_law_looks" (defArgs (top 54)) (defBody (top 54)) (defScope (top 54)) [] [] (He.ga K "_law_looks") (fdOf K (He.ga K "_law_looks"))
  b_l_looks : Binds K (fdOf K (He.ga K "_law_looks")) ["_law_deed_here"] []
  g_l_is_over : mg "_law_is_over" = some (.ref (He.ga K "_law_is_over"))
  F_l_is_over : FunD K "_law_is_over" "_law_is_over" (defArgs (top 55)) (defBody (top 55)) (defScope (top 55)) [] [] (He.ga K "_law_is_over") (fdOf K (He.ga K "_law_is_over"))
  b_l_is_over : Binds K (fdOf K (He.ga K "_law_is_over")) ["_law_crew_here", "_law_clocks_here", "_law_one", "_law_other"] []
  g_l_is_shown : mg "_law_is_shown" = some (.ref (He.ga K "_law_is_shown"))
  F_l_is_shown : FunD K "_law_is_shown" "_law_is_shown" (defArgs (top 56)) (defBody (top 56)) (defScope (top 56)) [] [] (He.ga K "_law_is_shown") (fdOf K (He.ga K "_law_is_shown"))
  b_l_is_shown : Binds K (fdOf K (He.ga K "_law_is_shown")) ["_law_crew_here", "_law_tiers_here", "_law_clocks_here", "_law_one", "_law_other"] []
  g_l_is_missed : mg "_law_is_missed" = some (.ref (He.ga K "_law_is_missed"))
  F_l_is_missed : FunD K "_law_is_missed" "_law_is_missed" (defArgs (top 57)) (defBody (top 57)) (defScope (top 57)) [] [] (He.ga K "_law_is_missed") (fdOf K (He.ga K "_law_is_missed"))
  b_l_is_missed : Binds K (fdOf K (He.ga K "_law_is_missed")) ["_law_crew_here", "_law_tiers_here", "_law_clocks_here", "_law_one", "_law_other"] []
  g_l_arrows : mg "_law_arrows" = some (.ref (He.ga K "_law_arrows"))
  F_l_arrows : FunD K "_law_arrows" "_law_arrows" (defArgs (top 58)) (defBody (top 58)) (defScope (top 58)) [] [] (He.ga K "_law_arrows") (fdOf K (He.ga K "_law_arrows"))
  b_l_arrows : Binds K (fdOf K (He.ga K "_law_arrows")) ["_law_crew_here", "_law_tiers_here", "_law_clocks_here"] []
  g_l_right : mg "_law_right" = some (.ref (He.ga K "_law_right"))
  F_l_right : FunD K "_law_right" "_law_right" (defArgs (top 59)) (defBody (top 59)) (defScope (top 59)) [] [] (He.ga K "_law_right") (fdOf K (He.ga K "_law_right"))
  b_l_right : Binds K (fdOf K (He.ga K "_law_right")) ["_law_crew_here", "_law_tiers_here", "_law_course_here"] []
  g_l_more : mg "_law_more" = some (.ref (He.ga K "_law_more"))
  F_l_more : FunD K "_law_more" "_law_more" (defArgs (top 61)) (defBody (top 61)) (defScope (top 61)) [] [] (He.ga K "_law_more") (fdOf K (He.ga K "_law_more"))
  b_l_more : Binds K (fdOf K (He.ga K "_law_more")) [] []
  g_l_hand : mg "_law_hand" = some (.ref (He.ga K "_law_hand"))
  F_l_hand : FunD K "_law_hand" "_law_hand" (defArgs (top 60)) (defBody (top 60)) (defScope (top 60)) [] [] (He.ga K "_law_hand") (fdOf K (He.ga K "_law_hand"))
  b_l_hand : Binds K (fdOf K (He.ga K "_law_hand")) [] []
  g_law : mg "law" = some (.ref (He.ga K "law"))
  F_law : FunD K "law" "law" (defArgs (top 62)) (defBody (top 62)) (defScope (top 62)) [] [] (He.ga K "law") (fdOf K (He.ga K "law"))
  b_law : Binds K (fdOf K (He.ga K "law")) ["_law_script"] []
theorem Txt.k_is_whole {K : PySem.W.Frag} {mg : Str → Option Value} (T : Txt K mg) : PySem.W.keepIn K (.ref (He.ga K "is_whole")) = true := T.F_is_whole.kp
theorem Txt.k_is_thing {K : PySem.W.Frag} {mg : Str → Option Value} (T : Txt K mg) : PySem.W.keepIn K (.ref (He.ga K "is_thing")) = true := T.F_is_thing.kp
theorem Txt.k_is_step {K : PySem.W.Frag} {mg : Str → Option Value} (T : Txt K mg) : PySem.W.keepIn K (.ref (He.ga K "is_step")) = true := T.F_is_step.kp
theorem Txt.k_can_follow {K : PySem.W.Frag} {mg : Str → Option Value} (T : Txt K mg) : PySem.W.keepIn K (.ref (He.ga K "can_follow")) = true := T.F_can_follow.kp
theorem Txt.k_wrong_step {K : PySem.W.Frag} {mg : Str → Option Value} (T : Txt K mg) : PySem.W.keepIn K (.ref (He.ga K "wrong_step")) = true := T.F_wrong_step.kp
theorem Txt.k_wrong_place {K : PySem.W.Frag} {mg : Str → Option Value} (T : Txt K mg) : PySem.W.keepIn K (.ref (He.ga K "wrong_place")) = true := T.F_wrong_place.kp
theorem Txt.k_need_lot {K : PySem.W.Frag} {mg : Str → Option Value} (T : Txt K mg) : PySem.W.keepIn K (.ref (He.ga K "need_lot")) = true := T.F_need_lot.kp
theorem Txt.k_are_levels {K : PySem.W.Frag} {mg : Str → Option Value} (T : Txt K mg) : PySem.W.keepIn K (.ref (He.ga K "are_levels")) = true := T.F_are_levels.kp
theorem Txt.k_need_levels {K : PySem.W.Frag} {mg : Str → Option Value} (T : Txt K mg) : PySem.W.keepIn K (.ref (He.ga K "need_levels")) = true := T.F_need_levels.kp
theorem Txt.k_things_in {K : PySem.W.Frag} {mg : Str → Option Value} (T : Txt K mg) : PySem.W.keepIn K (.ref (He.ga K "things_in")) = true := T.F_things_in.kp
theorem Txt.k_wrong_spot {K : PySem.W.Frag} {mg : Str → Option Value} (T : Txt K mg) : PySem.W.keepIn K (.ref (He.ga K "wrong_spot")) = true := T.F_wrong_spot.kp
theorem Txt.k_need_run {K : PySem.W.Frag} {mg : Str → Option Value} (T : Txt K mg) : PySem.W.keepIn K (.ref (He.ga K "need_run")) = true := T.F_need_run.kp
theorem Txt.k_times_of {K : PySem.W.Frag} {mg : Str → Option Value} (T : Txt K mg) : PySem.W.keepIn K (.ref (He.ga K "times_of")) = true := T.F_times_of.kp
theorem Txt.k_need_all {K : PySem.W.Frag} {mg : Str → Option Value} (T : Txt K mg) : PySem.W.keepIn K (.ref (He.ga K "need_all")) = true := T.F_need_all.kp
theorem Txt.k_markers {K : PySem.W.Frag} {mg : Str → Option Value} (T : Txt K mg) : PySem.W.keepIn K (.ref (He.ga K "markers")) = true := T.F_markers.kp
theorem Txt.k_sight_of {K : PySem.W.Frag} {mg : Str → Option Value} (T : Txt K mg) : PySem.W.keepIn K (.ref (He.ga K "sight_of")) = true := T.F_sight_of.kp
theorem Txt.k_seen_in {K : PySem.W.Frag} {mg : Str → Option Value} (T : Txt K mg) : PySem.W.keepIn K (.ref (He.ga K "seen_in")) = true := T.F_seen_in.kp
theorem Txt.k_look_arrows {K : PySem.W.Frag} {mg : Str → Option Value} (T : Txt K mg) : PySem.W.keepIn K (.ref (He.ga K "look_arrows")) = true := T.F_look_arrows.kp
theorem Txt.k_over_arrows {K : PySem.W.Frag} {mg : Str → Option Value} (T : Txt K mg) : PySem.W.keepIn K (.ref (He.ga K "over_arrows")) = true := T.F_over_arrows.kp
theorem Txt.k_arrows_in {K : PySem.W.Frag} {mg : Str → Option Value} (T : Txt K mg) : PySem.W.keepIn K (.ref (He.ga K "arrows_in")) = true := T.F_arrows_in.kp
theorem Txt.k_arrows {K : PySem.W.Frag} {mg : Str → Option Value} (T : Txt K mg) : PySem.W.keepIn K (.ref (He.ga K "arrows")) = true := T.F_arrows.kp
theorem Txt.k_l_begun {K : PySem.W.Frag} {mg : Str → Option Value} (T : Txt K mg) : PySem.W.keepIn K (.ref (He.ga K "_law_begun")) = true := T.F_l_begun.kp
theorem Txt.k_l_draw {K : PySem.W.Frag} {mg : Str → Option Value} (T : Txt K mg) : PySem.W.keepIn K (.ref (He.ga K "_law_draw")) = true := T.F_l_draw.kp
theorem Txt.k_l_of {K : PySem.W.Frag} {mg : Str → Option Value} (T : Txt K mg) : PySem.W.keepIn K (.ref (He.ga K "_law_of")) = true := T.F_l_of.kp
theorem Txt.k_l_deed {K : PySem.W.Frag} {mg : Str → Option Value} (T : Txt K mg) : PySem.W.keepIn K (.ref (He.ga K "_law_deed")) = true := T.F_l_deed.kp
theorem Txt.k_l_crew {K : PySem.W.Frag} {mg : Str → Option Value} (T : Txt K mg) : PySem.W.keepIn K (.ref (He.ga K "_law_crew")) = true := T.F_l_crew.kp
theorem Txt.k_l_tiers {K : PySem.W.Frag} {mg : Str → Option Value} (T : Txt K mg) : PySem.W.keepIn K (.ref (He.ga K "_law_tiers")) = true := T.F_l_tiers.kp
theorem Txt.k_l_course {K : PySem.W.Frag} {mg : Str → Option Value} (T : Txt K mg) : PySem.W.keepIn K (.ref (He.ga K "_law_course")) = true := T.F_l_course.kp
theorem Txt.k_l_all_courses {K : PySem.W.Frag} {mg : Str → Option Value} (T : Txt K mg) : PySem.W.keepIn K (.ref (He.ga K "_law_all_courses")) = true := T.F_l_all_courses.kp
theorem Txt.k_l_clocks {K : PySem.W.Frag} {mg : Str → Option Value} (T : Txt K mg) : PySem.W.keepIn K (.ref (He.ga K "_law_clocks")) = true := T.F_l_clocks.kp
theorem Txt.k_l_marks {K : PySem.W.Frag} {mg : Str → Option Value} (T : Txt K mg) : PySem.W.keepIn K (.ref (He.ga K "_law_marks")) = true := T.F_l_marks.kp
theorem Txt.k_l_sight {K : PySem.W.Frag} {mg : Str → Option Value} (T : Txt K mg) : PySem.W.keepIn K (.ref (He.ga K "_law_sight")) = true := T.F_l_sight.kp
theorem Txt.k_l_looks {K : PySem.W.Frag} {mg : Str → Option Value} (T : Txt K mg) : PySem.W.keepIn K (.ref (He.ga K "_law_looks")) = true := T.F_l_looks.kp
theorem Txt.k_l_is_over {K : PySem.W.Frag} {mg : Str → Option Value} (T : Txt K mg) : PySem.W.keepIn K (.ref (He.ga K "_law_is_over")) = true := T.F_l_is_over.kp
theorem Txt.k_l_is_shown {K : PySem.W.Frag} {mg : Str → Option Value} (T : Txt K mg) : PySem.W.keepIn K (.ref (He.ga K "_law_is_shown")) = true := T.F_l_is_shown.kp
theorem Txt.k_l_is_missed {K : PySem.W.Frag} {mg : Str → Option Value} (T : Txt K mg) : PySem.W.keepIn K (.ref (He.ga K "_law_is_missed")) = true := T.F_l_is_missed.kp
theorem Txt.k_l_arrows {K : PySem.W.Frag} {mg : Str → Option Value} (T : Txt K mg) : PySem.W.keepIn K (.ref (He.ga K "_law_arrows")) = true := T.F_l_arrows.kp
theorem Txt.k_l_right {K : PySem.W.Frag} {mg : Str → Option Value} (T : Txt K mg) : PySem.W.keepIn K (.ref (He.ga K "_law_right")) = true := T.F_l_right.kp
theorem Txt.k_l_more {K : PySem.W.Frag} {mg : Str → Option Value} (T : Txt K mg) : PySem.W.keepIn K (.ref (He.ga K "_law_more")) = true := T.F_l_more.kp
theorem Txt.k_l_hand {K : PySem.W.Frag} {mg : Str → Option Value} (T : Txt K mg) : PySem.W.keepIn K (.ref (He.ga K "_law_hand")) = true := T.F_l_hand.kp
theorem Txt.k_law {K : PySem.W.Frag} {mg : Str → Option Value} (T : Txt K mg) : PySem.W.keepIn K (.ref (He.ga K "law")) = true := T.F_law.kp
variable {P : Program} {w : World} {K : PySem.W.Frag} {mg : Str → Option Value} {base : Heap}
/-! is_whole -/
theorem sc_is_whole : FnScope ["value", "least", "most"] ["value", "least", "most"] (defScope (top 16)) := ⟨rfl, rfl, rfl, by decide +kernel, rfl, by decide +kernel, by decide +kernel⟩
theorem raw_is_whole (T : Txt K mg) : FnG P w K mg base 1 (He.ga K "is_whole") (fdOf K (He.ga K "is_whole")) ["value", "least", "most"] (bodyF 3 t_is_whole) :=
  fn_g T.F_is_whole sc_is_whole fun cdv A outer s H E hr hgd => (ss_one (ss_ret (se_and (se_isinst (se_var 0) rfl T.f_isinstance rfl T.f_int (by decide +kernel)) (se_and (se_not (se_isinst (se_var 0) rfl T.f_isinstance rfl T.f_bool (by decide +kernel))) (se_one (se_chain op_le' op_le' (se_var 1) (se_var 0) (se_var 2)))))))
theorem ok_is_whole (T : Txt K mg) : FnG P w K mg base 1 (He.ga K "is_whole") (fdOf K (He.ga K "is_whole")) ["value", "least", "most"] m_is_whole := (raw_is_whole T).pure
/-! is_thing -/
theorem sc_is_thing : FnScope ["value", "letter"] ["value"] (defScope (top 17)) := ⟨rfl, rfl, rfl, by decide +kernel, rfl, by decide +kernel, by decide +kernel⟩
theorem raw_is_thing (T : Txt K mg) : FnG P w K mg base 1 (He.ga K "is_thing") (fdOf K (He.ga K "is_thing")) ["value"] (bodyF 2 t_is_thing) :=
  fn_g T.F_is_thing sc_is_thing fun cdv A outer s H E hr hgd => (ss_cons (ss_if (PW.pt (st_or (st_not (st_val (se_isinst (se_var 0) rfl T.f_isinstance rfl T.f_str (by decide +kernel)))) (st_or1 (st_not (st_chain op_le' op_le' se_int (se_callB (cl_len) rfl T.f_len (by decide +kernel) (sa_cons (se_var 0) sa_nil)) (se_gint rfl T.c_MOST_LETTERS)))))) (ss_one (ss_ret se_bl)) ss_nil) (ss_one (ss_ret (se_callB (cl_all rfl) rfl T.f_all (by decide +kernel) (sa_cons (se_lc [("letter", 1)] fin_fz rfl sc_is_thing.nd (si_seq (se_var 0)) (blkOk_by (N := ["value", "letter"]) (sc := defScope (top 17)) (by decide +kernel)) (fun _ _ _ _ _ => (sg_name 1 sc_is_thing.nd)) (fun _ _ _ _ _ => pts_yes) (fun _ _ _ _ _ => pe_0 (se_cmp (op_in' (hu65 hr)) (se_var 1) (se_gstr rfl T.c_LETTERS)))) sa_nil)))))
theorem ok_is_thing (T : Txt K mg) : FnG P w K mg base 1 (He.ga K "is_thing") (fdOf K (He.ga K "is_thing")) ["value"] m_is_thing := (raw_is_thing T).pure
/-! is_step -/
theorem sc_is_step : FnScope ["value"] ["value"] (defScope (top 18)) := ⟨rfl, rfl, rfl, by decide +kernel, rfl, by decide +kernel, by decide +kernel⟩
theorem raw_is_step (T : Txt K mg) : FnG P w K mg base 2 (He.ga K "is_step") (fdOf K (He.ga K "is_step")) ["value"] (bodyF 1 t_is_step) :=
  fn_g T.F_is_step sc_is_step fun cdv A outer s H E hr hgd => (ss_cons (ss_if (PW.pt (st_or (st_not (st_val (se_isinst (se_var 0) rfl T.f_isinstance rfl T.f_tuple (by decide +kernel)))) (st_or (st_cmp (op_ne' (hu64 hr)) (se_callB (cl_len) rfl T.f_len (by decide +kernel) (sa_cons (se_var 0) sa_nil)) se_int) (st_or1 (st_not (st_val (se_isinst (se_ix ix_item (se_var 0) se_int) rfl T.f_isinstance rfl T.f_str (by decide +kernel)))))))) (ss_one (ss_ret se_bl)) ss_nil) (ss_one (ss_ret (se_and (se_cmp (op_in' (hu65 hr)) (se_ix ix_item (se_var 0) se_int) (se_tup (sa_cons (se_gstr rfl T.c_LOOK) (sa_cons (se_gstr rfl T.c_MARK) sa_nil)))) (se_one (se_call (ok_is_thing T) (hr.mono (by decide)) hgd rfl T.g_is_thing T.k_is_thing T.b_is_thing (sa_cons (se_ix ix_item (se_var 0) se_int) sa_nil)))))))
theorem ok_is_step (T : Txt K mg) : FnG P w K mg base 2 (He.ga K "is_step") (fdOf K (He.ga K "is_step")) ["value"] m_is_step := (raw_is_step T).pure
/-! can_follow -/
theorem sc_can_follow : FnScope ["steps", "value"] ["steps", "value"] (defScope (top 19)) := ⟨rfl, rfl, rfl, by decide +kernel, rfl, by decide +kernel, by decide +kernel⟩
theorem raw_can_follow (T : Txt K mg) : FnG P w K mg base 3 (He.ga K "can_follow") (fdOf K (He.ga K "can_follow")) ["steps", "value"] (bodyF 2 t_can_follow) :=
  fn_g T.F_can_follow sc_can_follow fun cdv A outer s H E hr hgd => (ss_cons (ss_if (PW.pt (st_or (st_not (st_val (se_call (ok_is_step T) (hr.mono (by decide)) hgd rfl T.g_is_step T.k_is_step T.b_is_step (sa_cons (se_var 1) sa_nil)))) (st_or1 (st_cmp (op_in' (hu65 hr)) (se_var 1) (se_var 0))))) (ss_one (ss_ret se_bl)) ss_nil) (ss_one (ss_ret (se_or (se_cmp (op_eq' (hu64 hr)) (se_ix ix_item (se_var 1) se_int) (se_gstr rfl T.c_MARK)) (se_one (se_cmp (op_notIn' (hu65 hr)) (se_tup (sa_cons (se_gstr rfl T.c_MARK) (sa_cons (se_ix ix_item (se_var 1) se_int) sa_nil))) (se_var 0)))))))
theorem ok_can_follow (T : Txt K mg) : FnG P w K mg base 3 (He.ga K "can_follow") (fdOf K (He.ga K "can_follow")) ["steps", "value"] m_can_follow := (raw_can_follow T).pure
/-! wrong_step -/
theorem sc_wrong_step : FnScope ["value", "place", "step"] ["value"] (defScope (top 20)) := ⟨rfl, rfl, rfl, by decide +kernel, rfl, by decide +kernel, by decide +kernel⟩
theorem raw_wrong_step (T : Txt K mg) : FnG P w K mg base 4 (He.ga K "wrong_step") (fdOf K (He.ga K "wrong_step")) ["value"] (bodyF 3 t_wrong_step) :=
  fn_g T.F_wrong_step sc_wrong_step fun cdv A outer s H E hr hgd => (ss_cons (ss_wp [1, 2] (ss_for passB rfl (si_enum rfl T.f_enumerate (se_var 0)) (sg_tup rfl (sgs_cons (sg_name 1 sc_wrong_step.nd) (sgs_cons (sg_name 2 sc_wrong_step.nd) sgs_nil))) (ss_end [1, 2] (ss_one (ss_if (st_not (st_val (se_call (ok_can_follow T) (hr.mono (by decide)) hgd rfl T.g_can_follow T.k_can_follow T.b_can_follow (sa_cons (se_sl sl_any (se_var 0) so_no (so_part (se_var 1))) (sa_cons (se_var 2) sa_nil))))) (ss_one (ss_ret (se_var 1))) ss_nil))))) (ss_one (ss_ret se_non)))
theorem ok_wrong_step (T : Txt K mg) : FnG P w K mg base 4 (He.ga K "wrong_step") (fdOf K (He.ga K "wrong_step")) ["value"] m_wrong_step := (raw_wrong_step T).pure
/-! wrong_place -/
theorem sc_wrong_place : FnScope ["value", "number", "deed", "place"] ["value"] (defScope (top 21)) := ⟨rfl, rfl, rfl, by decide +kernel, rfl, by decide +kernel, by decide +kernel⟩
theorem raw_wrong_place (T : Txt K mg) : FnG P w K mg base 5 (He.ga K "wrong_place") (fdOf K (He.ga K "wrong_place")) ["value"] (bodyF 4 t_wrong_place) :=
  fn_g T.F_wrong_place sc_wrong_place fun cdv A outer s H E hr hgd => (ss_cons (ss_if (PW.pt (st_or (st_not (st_val (se_isinst (se_var 0) rfl T.f_isinstance rfl T.f_tuple (by decide +kernel)))) (st_or1 (st_not (st_chain op_le' op_le' se_int (se_callB (cl_len) rfl T.f_len (by decide +kernel) (sa_cons (se_var 0) sa_nil)) (se_gint rfl T.c_MOST_DEEDS)))))) (ss_one (ss_ret (se_tup sa_nil))) ss_nil) (ss_cons (ss_wp [1, 2, 3] (ss_for passB rfl (si_enum rfl T.f_enumerate (se_var 0)) (sg_tup rfl (sgs_cons (sg_name 1 sc_wrong_place.nd) (sgs_cons (sg_name 2 sc_wrong_place.nd) sgs_nil))) (ss_end [1, 2, 3] (ss_cons (ss_if (PW.pt (st_or (st_not (st_val (se_isinst (se_var 2) rfl T.f_isinstance rfl T.f_tuple (by decide +kernel)))) (st_or1 (st_not (st_chain op_le' op_le' se_int (se_callB (cl_len) rfl T.f_len (by decide +kernel) (sa_cons (se_var 2) sa_nil)) (se_gint rfl T.c_MOST_STEPS)))))) (ss_one (ss_ret (se_tup (sa_cons (se_var 1) sa_nil)))) ss_nil) (ss_cons (ss_set 3 sc_wrong_place.nd (se_call (ok_wrong_step T) (hr.mono (by decide)) hgd rfl T.g_wrong_step T.k_wrong_step T.b_wrong_step (sa_cons (se_var 2) sa_nil))) (ss_one (ss_if (st_cmp op_notN' (se_var 3) se_non) (ss_one (ss_ret (se_tup (sa_cons (se_var 1) (sa_cons (se_var 3) sa_nil))))) ss_nil))))))) (ss_one (ss_ret se_non))))
theorem ok_wrong_place (T : Txt K mg) : FnG P w K mg base 5 (He.ga K "wrong_place") (fdOf K (He.ga K "wrong_place")) ["value"] m_wrong_place := (raw_wrong_place T).pure
/-! need_lot -/
theorem sc_need_lot : FnScope ["thing", "place"] ["thing"] (defScope (top 22)) := ⟨rfl, rfl, rfl, by decide +kernel, rfl, by decide +kernel, by decide +kernel⟩
theorem raw_need_lot (T : Txt K mg) : FnG P w K mg base 6 (He.ga K "need_lot") (fdOf K (He.ga K "need_lot")) ["thing"] (bodyF 2 t_need_lot) :=
  fn_g T.F_need_lot sc_need_lot fun cdv A outer s H E hr hgd => (ss_cons (ss_set 1 sc_need_lot.nd (se_call (ok_wrong_place T) (hr.mono (by decide)) hgd rfl T.g_wrong_place T.k_wrong_place T.b_wrong_place (sa_cons (se_var 0) sa_nil))) (ss_cons (ss_if (st_cmp op_notN' (se_var 1) se_non) (ss_one ss_no) ss_nil) (ss_one (ss_ret (se_var 0)))))
theorem ok_need_lot (T : Txt K mg) : FnG P w K mg base 6 (He.ga K "need_lot") (fdOf K (He.ga K "need_lot")) ["thing"] m_need_lot := (raw_need_lot T).pure
/-! are_levels -/
theorem sc_are_levels : FnScope ["lot", "value", "level"] ["lot", "value"] (defScope (top 23)) := ⟨rfl, rfl, rfl, by decide +kernel, rfl, by decide +kernel, by decide +kernel⟩
theorem raw_are_levels (T : Txt K mg) : FnG P w K mg base 1 (He.ga K "are_levels") (fdOf K (He.ga K "are_levels")) ["lot", "value"] (bodyF 3 t_are_levels) :=
  fn_g T.F_are_levels sc_are_levels fun cdv A outer s H E hr hgd => (ss_cons (ss_if (PW.pt (st_or (st_not (st_val (se_isinst (se_var 1) rfl T.f_isinstance rfl T.f_tuple (by decide +kernel)))) (st_or1 (st_cmp (op_ne' (hu64 hr)) (se_callB (cl_len) rfl T.f_len (by decide +kernel) (sa_cons (se_var 1) sa_nil)) (se_callB (cl_len) rfl T.f_len (by decide +kernel) (sa_cons (se_var 0) sa_nil)))))) (ss_one (ss_ret se_bl)) ss_nil) (ss_one (ss_ret (se_callB (cl_all rfl) rfl T.f_all (by decide +kernel) (sa_cons (se_lc [("level", 2)] fin_fz rfl sc_are_levels.nd (si_seq (se_var 1)) (blkOk_by (N := ["lot", "value", "level"]) (sc := defScope (top 23)) (by decide +kernel)) (fun _ _ _ _ _ => (sg_name 2 sc_are_levels.nd)) (fun _ _ _ _ _ => pts_yes) (fun _ _ _ _ _ => pe_0 (se_and (se_isinst (se_var 2) rfl T.f_isinstance rfl T.f_str (by decide +kernel)) (se_one (se_cmp (op_in' (hu65 hr)) (se_var 2) (se_gtup rfl T.c_LEVELS)))))) sa_nil)))))
theorem ok_are_levels (T : Txt K mg) : FnG P w K mg base 1 (He.ga K "are_levels") (fdOf K (He.ga K "are_levels")) ["lot", "value"] m_are_levels := (raw_are_levels T).pure
/-! need_levels -/
theorem sc_need_levels : FnScope ["lot", "levels"] ["lot", "levels"] (defScope (top 24)) := ⟨rfl, rfl, rfl, by decide +kernel, rfl, by decide +kernel, by decide +kernel⟩
theorem raw_need_levels (T : Txt K mg) : FnG P w K mg base 7 (He.ga K "need_levels") (fdOf K (He.ga K "need_levels")) ["lot", "levels"] (bodyF 2 t_need_levels) :=
  fn_g T.F_need_levels sc_need_levels fun cdv A outer s H E hr hgd => (ss_cons (ss_expr (se_call (ok_need_lot T) (hr.mono (by decide)) hgd rfl T.g_need_lot T.k_need_lot T.b_need_lot (sa_cons (se_var 0) sa_nil))) (ss_cons (ss_if (st_not (st_val (se_call (ok_are_levels T) (hr.mono (by decide)) hgd rfl T.g_are_levels T.k_are_levels T.b_are_levels (sa_cons (se_var 0) (sa_cons (se_var 1) sa_nil))))) (ss_one ss_no) ss_nil) (ss_one (ss_ret (se_var 1)))))
theorem ok_need_levels (T : Txt K mg) : FnG P w K mg base 7 (He.ga K "need_levels") (fdOf K (He.ga K "need_levels")) ["lot", "levels"] m_need_levels := (raw_need_levels T).pure
/-! things_in -/
theorem sc_things_in : FnScope ["deed", "what", "word", "thing"] ["deed", "what"] (defScope (top 25)) := ⟨rfl, rfl, rfl, by decide +kernel, rfl, by decide +kernel, by decide +kernel⟩
theorem raw_things_in (T : Txt K mg) : FnG P w K mg base 1 (He.ga K "things_in") (fdOf K (He.ga K "things_in")) ["deed", "what"] (bodyF 4 t_things_in) :=
  fn_g T.F_things_in sc_things_in fun cdv A outer s H E hr hgd => (ss_one (ss_ret (se_lc [("word", 2), ("thing", 3)] fin_fz rfl sc_things_in.nd (si_seq (se_var 0)) (blkOk_by (N := ["deed", "what", "word", "thing"]) (sc := defScope (top 25)) (by decide +kernel)) (fun _ _ _ _ _ => (sg_tup rfl (sgs_cons (sg_name 2 sc_things_in.nd) (sgs_cons (sg_name 3 sc_things_in.nd) sgs_nil)))) (fun _ _ _ _ _ => (pts_0 (st_cmp (op_eq' (hu64 hr)) (se_var 2) (se_var 1)))) (fun _ _ _ _ _ => pe_0 (se_var 3)))))
theorem ok_things_in (T : Txt K mg) : FnG P w K mg base 1 (He.ga K "things_in") (fdOf K (He.ga K "things_in")) ["deed", "what"] m_things_in := (raw_things_in T).pure
/-! wrong_spot -/
theorem sc_wrong_spot : FnScope ["lot", "value", "left", "place", "number", "deed"] ["lot", "value"] (defScope (top 27)) := ⟨rfl, rfl, rfl, by decide +kernel, rfl, by decide +kernel, by decide +kernel⟩
theorem raw_wrong_spot (T : Txt K mg) : FnG P w K mg base 2 (He.ga K "wrong_spot") (fdOf K (He.ga K "wrong_spot")) ["lot", "value"] (bodyF 6 t_wrong_spot) :=
  fn_g T.F_wrong_spot sc_wrong_spot fun cdv A outer s H E hr hgd => (ss_cons (ss_setLc 2 [("deed", 5)] fin_nw rfl sc_wrong_spot.nd (si_seq (se_var 0)) (blkOk_by (N := ["lot", "value", "left", "place", "number", "deed"]) (sc := defScope (top 27)) (by decide +kernel)) (fun _ _ _ _ _ => (sg_name 5 sc_wrong_spot.nd)) (fun _ _ _ _ _ => pts_yes) (fun _ _ _ _ _ => pe_0 (se_bin op_add' (se_callB (cl_len) rfl T.f_len (by decide +kernel) (sa_cons (se_var 5) sa_nil)) se_int))) (ss_cons (ss_wp [3, 4] (ss_for passB rfl (si_enum rfl T.f_enumerate (se_var 1)) (sg_tup rfl (sgs_cons (sg_name 3 sc_wrong_spot.nd) (sgs_cons (sg_name 4 sc_wrong_spot.nd) sgs_nil))) (ss_end [3, 4] (ss_cons (ss_if (PW.pt (st_or (st_not (st_val (se_call (ok_is_whole T) (hr.mono (by decide)) hgd rfl T.g_is_whole T.k_is_whole T.b_is_whole (sa_cons (se_var 4) (sa_cons se_int (sa_cons (se_bin op_sub' (se_callB (cl_len) rfl T.f_len (by decide +kernel) (sa_cons (se_var 0) sa_nil)) se_int) sa_nil)))))) (st_or1 (st_cmp (op_eq' (hu64 hr)) (se_ix ix_item (se_var 2) (se_var 4)) se_int)))) (ss_one (ss_ret (se_var 3))) ss_nil) (ss_one (ss_augsub (hu1 hr) ip_sub' (se_var 2) (se_var 4) se_int)))))) (ss_one (ss_ret se_non))))
theorem ok_wrong_spot (T : Txt K mg) : FnG P w K mg base 2 (He.ga K "wrong_spot") (fdOf K (He.ga K "wrong_spot")) ["lot", "value"] m_wrong_spot := (raw_wrong_spot T).pure
/-! need_run -/
theorem sc_need_run : FnScope ["lot", "run", "place", "deed"] ["lot", "run"] (defScope (top 28)) := ⟨rfl, rfl, rfl, by decide +kernel, rfl, by decide +kernel, by decide +kernel⟩
theorem raw_need_run (T : Txt K mg) : FnG P w K mg base 7 (He.ga K "need_run") (fdOf K (He.ga K "need_run")) ["lot", "run"] (bodyF 4 t_need_run) :=
  fn_g T.F_need_run sc_need_run fun cdv A outer s H E hr hgd => (ss_cons (ss_expr (se_call (ok_need_lot T) (hr.mono (by decide)) hgd rfl T.g_need_lot T.k_need_lot T.b_need_lot (sa_cons (se_var 0) sa_nil))) (ss_cons (ss_if (PW.pt (st_or (st_not (st_val (se_isinst (se_var 1) rfl T.f_isinstance rfl T.f_tuple (by decide +kernel)))) (st_or1 (st_cmp (op_ne' (hu64 hr)) (se_callB (cl_len) rfl T.f_len (by decide +kernel) (sa_cons (se_var 1) sa_nil)) (se_callB (cl_sum rfl) rfl T.f_sum (by decide +kernel) (sa_cons (se_lc [("deed", 3)] fin_fz rfl sc_need_run.nd (si_seq (se_var 0)) (blkOk_by (N := ["lot", "run", "place", "deed"]) (sc := defScope (top 28)) (by decide +kernel)) (fun _ _ _ _ _ => (sg_name 3 sc_need_run.nd)) (fun _ _ _ _ _ => pts_yes) (fun _ _ _ _ _ => pe_0 (se_bin op_add' (se_callB (cl_len) rfl T.f_len (by decide +kernel) (sa_cons (se_var 3) sa_nil)) se_int))) sa_nil)))))) (ss_one ss_no) ss_nil) (ss_cons (ss_set 2 sc_need_run.nd (se_call (ok_wrong_spot T) (hr.mono (by decide)) hgd rfl T.g_wrong_spot T.k_wrong_spot T.b_wrong_spot (sa_cons (se_var 0) (sa_cons (se_var 1) sa_nil)))) (ss_cons (ss_if (st_cmp op_notN' (se_var 2) se_non) (ss_one ss_no) ss_nil) (ss_one (ss_ret (se_var 1)))))))
theorem ok_need_run (T : Txt K mg) : FnG P w K mg base 7 (He.ga K "need_run") (fdOf K (He.ga K "need_run")) ["lot", "run"] m_need_run := (raw_need_run T).pure
/-! times_of -/
theorem sc_times_of : FnScope ["lot", "run", "deed", "place", "number"] ["lot", "run"] (defScope (top 29)) := ⟨rfl, rfl, rfl, by decide +kernel, rfl, by decide +kernel, by decide +kernel⟩
theorem raw_times_of (T : Txt K mg) : FnG P w K mg base 1 (He.ga K "times_of") (fdOf K (He.ga K "times_of")) ["lot", "run"] (bodyF 5 t_times_of) :=
  fn_g T.F_times_of sc_times_of fun cdv A outer s H E hr hgd => (ss_one (ss_ret (se_lc [("deed", 2)] fin_fz rfl sc_times_of.nd (si_range1 rfl T.f_range (se_callB (cl_len) rfl T.f_len (by decide +kernel) (sa_cons (se_var 0) sa_nil))) (blkOk_by (N := ["lot", "run", "deed", "place", "number"]) (sc := defScope (top 29)) (by decide +kernel)) (fun _ _ _ _ _ => (sg_name 2 sc_times_of.nd)) (fun _ _ _ _ _ => pts_yes) (fun _ _ _ _ _ => pe_0 (se_lc [("place", 3), ("number", 4)] fin_fz rfl sc_times_of.nd (si_enum rfl T.f_enumerate (se_var 1)) (blkOk_by (by kernel_rfl)) (fun _ _ _ _ _ => (sg_tup rfl (sgs_cons (sg_name 3 sc_times_of.nd) (sgs_cons (sg_name 4 sc_times_of.nd) sgs_nil)))) (fun _ _ _ _ _ => (pts_0 (st_cmp (op_eq' (hu64 hr)) (se_var 4) (se_var 2)))) (fun _ _ _ _ _ => pe_0 (se_var 3)))))))
theorem ok_times_of (T : Txt K mg) : FnG P w K mg base 1 (He.ga K "times_of") (fdOf K (He.ga K "times_of")) ["lot", "run"] m_times_of := (raw_times_of T).pure
/-! need_all -/
theorem sc_need_all : FnScope ["lot", "levels", "run"] ["lot", "levels", "run"] (defScope (top 34)) := ⟨rfl, rfl, rfl, by decide +kernel, rfl, by decide +kernel, by decide +kernel⟩
theorem raw_need_all (T : Txt K mg) : FnG P w K mg base 8 (He.ga K "need_all") (fdOf K (He.ga K "need_all")) ["lot", "levels", "run"] (bodyF 3 t_need_all) :=
  fn_g T.F_need_all sc_need_all fun cdv A outer s H E hr hgd => (ss_cons (ss_expr (se_call (ok_need_levels T) (hr.mono (by decide)) hgd rfl T.g_need_levels T.k_need_levels T.b_need_levels (sa_cons (se_var 0) (sa_cons (se_var 1) sa_nil)))) (ss_one (ss_expr (se_call (ok_need_run T) (hr.mono (by decide)) hgd rfl T.g_need_run T.k_need_run T.b_need_run (sa_cons (se_var 0) (sa_cons (se_var 2) sa_nil))))))
theorem ok_need_all (T : Txt K mg) : FnG P w K mg base 8 (He.ga K "need_all") (fdOf K (He.ga K "need_all")) ["lot", "levels", "run"] m_need_all := (raw_need_all T).pure
/-! markers -/
theorem sc_markers : FnScope ["lot", "deed", "thing", "number", "other"] ["lot", "deed", "thing"] (defScope (top 35)) := ⟨rfl, rfl, rfl, by decide +kernel, rfl, by decide +kernel, by decide +kernel⟩
theorem raw_markers (T : Txt K mg) : FnG P w K mg base 1 (He.ga K "markers") (fdOf K (He.ga K "markers")) ["lot", "deed", "thing"] (bodyF 5 t_markers) :=
  fn_g T.F_markers sc_markers fun cdv A outer s H E hr hgd => (ss_one (ss_ret (se_lc [("number", 3), ("other", 4)] fin_fz rfl sc_markers.nd (si_enum rfl T.f_enumerate (se_var 0)) (blkOk_by (N := ["lot", "deed", "thing", "number", "other"]) (sc := defScope (top 35)) (by decide +kernel)) (fun _ _ _ _ _ => (sg_tup rfl (sgs_cons (sg_name 3 sc_markers.nd) (sgs_cons (sg_name 4 sc_markers.nd) sgs_nil)))) (fun _ _ _ _ _ => (pts_0 (PW.pt (st_and (st_cmp (op_ne' (hu64 hr)) (se_var 3) (se_var 1)) (st_and1 (st_cmp (op_in' (hu65 hr)) (se_tup (sa_cons (se_gstr rfl T.c_MARK) (sa_cons (se_var 2) sa_nil))) (se_var 4))))))) (fun _ _ _ _ _ => pe_0 (se_var 3)))))
theorem ok_markers (T : Txt K mg) : FnG P w K mg base 1 (He.ga K "markers") (fdOf K (He.ga K "markers")) ["lot", "deed", "thing"] m_markers := (raw_markers T).pure
/-! sight_of -/
theorem sc_sight_of : FnScope ["lot", "levels", "times", "deed", "place", "moment", "ends", "one"] ["lot", "levels", "times", "deed", "place"] (defScope (top 36)) := ⟨rfl, rfl, rfl, by decide +kernel, rfl, by decide +kernel, by decide +kernel⟩
theorem raw_sight_of (T : Txt K mg) : FnG P w K mg base 2 (He.ga K "sight_of") (fdOf K (He.ga K "sight_of")) ["lot", "levels", "times", "deed", "place"] (bodyF 8 t_sight_of) :=
  fn_g T.F_sight_of sc_sight_of fun cdv A outer s H E hr hgd => (ss_cons (ss_set 5 sc_sight_of.nd (se_ix ix_item (se_ix ix_item (se_var 2) (se_var 3)) (se_if (st_cmp (op_eq' (hu64 hr)) (se_ix ix_item (se_var 1) (se_var 3)) (se_gstr rfl T.c_LATE)) (se_var 4) se_int))) (ss_cons (ss_setLc 6 [("one", 7)] fin_fz rfl sc_sight_of.nd (si_seq (se_call (ok_markers T) (hr.mono (by decide)) hgd rfl T.g_markers T.k_markers T.b_markers (sa_cons (se_var 0) (sa_cons (se_var 3) (sa_cons (se_ix ix_item (se_ix ix_item (se_ix ix_item (se_var 0) (se_var 3)) (se_var 4)) se_int) sa_nil))))) (blkOk_by (N := ["lot", "levels", "times", "deed", "place", "moment", "ends", "one"]) (sc := defScope (top 36)) (by decide +kernel)) (fun _ _ _ _ _ => (sg_name 7 sc_sight_of.nd)) (fun _ _ _ _ _ => (pts_0 (st_cmp op_lt' (se_ix ix_item (se_ix ix_item (se_var 2) (se_var 7)) (se_un un_neg' se_int)) (se_var 5)))) (fun _ _ _ _ _ => pe_0 (se_tup (sa_cons (se_ix ix_item (se_ix ix_item (se_var 2) (se_var 7)) (se_un un_neg' se_int)) (sa_cons (se_var 7) sa_nil))))) (ss_one (ss_ret (se_if (st_cmp (op_ne' (hu64 hr)) (se_var 6) (se_lst sa_nil)) (se_ix ix_item (se_callB (cl_maxL rfl (hu64 hr)) rfl T.f_max (by decide +kernel) (sa_cons (se_var 6) sa_nil)) se_int) se_non)))))
theorem ok_sight_of (T : Txt K mg) : FnG P w K mg base 2 (He.ga K "sight_of") (fdOf K (He.ga K "sight_of")) ["lot", "levels", "times", "deed", "place"] m_sight_of := (raw_sight_of T).pure
/-! seen_in -/
theorem sc_seen_in : FnScope ["lot", "levels", "times", "found", "number", "deed", "place", "what", "thing"] ["lot", "levels", "times"] (defScope (top 37)) := ⟨rfl, rfl, rfl, by decide +kernel, rfl, by decide +kernel, by decide +kernel⟩
theorem raw_seen_in (T : Txt K mg) : FnG P w K mg base 3 (He.ga K "seen_in") (fdOf K (He.ga K "seen_in")) ["lot", "levels", "times"] (bodyF 9 t_seen_in) :=
  fn_g T.F_seen_in sc_seen_in fun cdv A outer s H E hr hgd => (ss_cons (ss_set 3 sc_seen_in.nd (se_new sa_nil)) (ss_cons (ss_wp [4, 5, 6, 7, 8] (ss_for passB rfl (si_enum rfl T.f_enumerate (se_var 0)) (sg_tup rfl (sgs_cons (sg_name 4 sc_seen_in.nd) (sgs_cons (sg_name 5 sc_seen_in.nd) sgs_nil))) (ss_end [4, 5, 6, 7, 8] (ss_one (ss_wp [6, 7, 8] (ss_for passB rfl (si_enum rfl T.f_enumerate (se_var 5)) (sg_tup rfl (sgs_cons (sg_name 6 sc_seen_in.nd) (sgs_cons (sg_tup rfl (sgs_cons (sg_name 7 sc_seen_in.nd) (sgs_cons (sg_name 8 sc_seen_in.nd) sgs_nil))) sgs_nil))) (ss_end [6, 7, 8] (ss_one (ss_if (st_cmp (op_eq' (hu64 hr)) (se_var 7) (se_gstr rfl T.c_LOOK)) (ss_one (ss_expr (se_mt PySem.F.plainAttrs_list PySem.F.slot_list_append PySem.F.type_list_append mt_append' chk_list (se_var 3) (sa_cons (se_tup (sa_cons (se_var 4) (sa_cons (se_var 6) (sa_cons (se_call (ok_sight_of T) (hr.mono (by decide)) hgd rfl T.g_sight_of T.k_sight_of T.b_sight_of (sa_cons (se_var 0) (sa_cons (se_var 1) (sa_cons (se_var 2) (sa_cons (se_var 4) (sa_cons (se_var 6) sa_nil)))))) sa_nil)))) sa_nil)))) ss_nil))))))))) (ss_one (ss_frz 3 (ss_ret (se_var 3))))))
theorem ok_seen_in (T : Txt K mg) : FnG P w K mg base 3 (He.ga K "seen_in") (fdOf K (He.ga K "seen_in")) ["lot", "levels", "times"] m_seen_in := (raw_seen_in T).pure
/-! look_arrows -/
theorem sc_look_arrows : FnScope ["lot", "times", "triple", "deed", "place", "sight", "found", "other"] ["lot", "times", "triple"] (defScope (top 38)) := ⟨rfl, rfl, rfl, by decide +kernel, rfl, by decide +kernel, by decide +kernel⟩
theorem raw_look_arrows (T : Txt K mg) : FnG P w K mg base 2 (He.ga K "look_arrows") (fdOf K (He.ga K "look_arrows")) ["lot", "times", "triple"] (bodyF 8 t_look_arrows) :=
  fn_g T.F_look_arrows sc_look_arrows fun cdv A outer s H E hr hgd => (ss_cons (ss_asg (se_var 2) (sg_tup rfl (sgs_cons (sg_name 3 sc_look_arrows.nd) (sgs_cons (sg_name 4 sc_look_arrows.nd) (sgs_cons (sg_name 5 sc_look_arrows.nd) sgs_nil))))) (ss_cons (ss_set 6 sc_look_arrows.nd (se_new sa_nil)) (ss_cons (ss_wp [7] (ss_for passB rfl (si_seq (se_call (ok_markers T) (hr.mono (by decide)) hgd rfl T.g_markers T.k_markers T.b_markers (sa_cons (se_var 0) (sa_cons (se_var 3) (sa_cons (se_ix ix_item (se_ix ix_item (se_ix ix_item (se_var 0) (se_var 3)) (se_var 4)) se_int) sa_nil))))) (sg_name 7 sc_look_arrows.nd) (ss_end [7] (ss_one (ss_if (PW.pt (st_and (st_cmp op_notN' (se_var 5) se_non) (st_and1 (st_cmp op_le' (se_ix ix_item (se_ix ix_item (se_var 1) (se_var 7)) (se_un un_neg' se_int)) (se_ix ix_item (se_ix ix_item (se_var 1) (se_var 5)) (se_un un_neg' se_int)))))) (ss_one (ss_expr (se_mt PySem.F.plainAttrs_list PySem.F.slot_list_append PySem.F.type_list_append mt_append' chk_list (se_var 6) (sa_cons (se_tup (sa_cons (se_var 7) (sa_cons (se_var 3) (sa_cons (se_gstr rfl T.c_SHOWN) sa_nil)))) sa_nil)))) (ss_one (ss_expr (se_mt PySem.F.plainAttrs_list PySem.F.slot_list_append PySem.F.type_list_append mt_append' chk_list (se_var 6) (sa_cons (se_tup (sa_cons (se_var 3) (sa_cons (se_var 7) (sa_cons (se_gstr rfl T.c_MISSED) sa_nil)))) sa_nil))))))))) (ss_one (ss_frz 6 (ss_ret (se_var 6)))))))
theorem ok_look_arrows (T : Txt K mg) : FnG P w K mg base 2 (He.ga K "look_arrows") (fdOf K (He.ga K "look_arrows")) ["lot", "times", "triple"] m_look_arrows := (raw_look_arrows T).pure
/-! over_arrows -/
theorem sc_over_arrows : FnScope ["lot", "times", "found", "number", "deed", "thing", "later", "one"] ["lot", "times"] (defScope (top 39)) := ⟨rfl, rfl, rfl, by decide +kernel, rfl, by decide +kernel, by decide +kernel⟩
theorem raw_over_arrows (T : Txt K mg) : FnG P w K mg base 2 (He.ga K "over_arrows") (fdOf K (He.ga K "over_arrows")) ["lot", "times"] (bodyF 8 t_over_arrows) :=
  fn_g T.F_over_arrows sc_over_arrows fun cdv A outer s H E hr hgd => (ss_cons (ss_set 2 sc_over_arrows.nd (se_new sa_nil)) (ss_cons (ss_wp [3, 4, 5, 6] (ss_for passB rfl (si_enum rfl T.f_enumerate (se_var 0)) (sg_tup rfl (sgs_cons (sg_name 3 sc_over_arrows.nd) (sgs_cons (sg_name 4 sc_over_arrows.nd) sgs_nil))) (ss_end [3, 4, 5, 6] (ss_one (ss_wp [5, 6] (ss_for passB rfl (si_seq (se_call (ok_things_in T) (hr.mono (by decide)) hgd rfl T.g_things_in T.k_things_in T.b_things_in (sa_cons (se_var 4) (sa_cons (se_gstr rfl T.c_MARK) sa_nil)))) (sg_name 5 sc_over_arrows.nd) (ss_end [5, 6] (ss_cons (ss_setLc 6 [("one", 7)] fin_fz rfl sc_over_arrows.nd (si_seq (se_call (ok_markers T) (hr.mono (by decide)) hgd rfl T.g_markers T.k_markers T.b_markers (sa_cons (se_var 0) (sa_cons (se_var 3) (sa_cons (se_var 5) sa_nil))))) (blkOk_by (N := ["lot", "times", "found", "number", "deed", "thing", "later", "one"]) (sc := defScope (top 39)) (by decide +kernel)) (fun _ _ _ _ _ => (sg_name 7 sc_over_arrows.nd)) (fun _ _ _ _ _ => (pts_0 (st_cmp op_lt' (se_ix ix_item (se_ix ix_item (se_var 1) (se_var 3)) (se_un un_neg' se_int)) (se_ix ix_item (se_ix ix_item (se_var 1) (se_var 7)) (se_un un_neg' se_int))))) (fun _ _ _ _ _ => pe_0 (se_var 7))) (ss_one (ss_expr (se_mt PySem.F.plainAttrs_list PySem.F.slot_list_extend PySem.F.type_list_extend mt_extend' chk_list (se_var 2) (sa_cons (se_lc [("one", 7)] fin_fz rfl sc_over_arrows.nd (si_seq (se_var 6)) (blkOk_by (N := ["lot", "times", "found", "number", "deed", "thing", "later", "one"]) (sc := defScope (top 39)) (by decide +kernel)) (fun _ _ _ _ _ => (sg_name 7 sc_over_arrows.nd)) (fun _ _ _ _ _ => pts_yes) (fun _ _ _ _ _ => pe_0 (se_tup (sa_cons (se_var 3) (sa_cons (se_var 7) (sa_cons (se_gstr rfl T.c_OVER) sa_nil)))))) sa_nil)))))))))))) (ss_one (ss_frz 2 (ss_ret (se_var 2))))))
theorem ok_over_arrows (T : Txt K mg) : FnG P w K mg base 2 (He.ga K "over_arrows") (fdOf K (He.ga K "over_arrows")) ["lot", "times"] m_over_arrows := (raw_over_arrows T).pure
theorem rawk_over_arrows (T : Txt K mg) : FnG P w K mg base 2 (He.ga K "over_arrows") (fdOf K (He.ga K "over_arrows")) ["lot", "times"] (bodyF 8 t_over_arrows_k) :=
  fn_g T.F_over_arrows sc_over_arrows fun cdv A outer s H E hr hgd => (ss_cons (ss_set 2 sc_over_arrows.nd (se_new sa_nil)) (ss_cons (ss_wp [3, 4, 5, 6] (ss_for passB rfl (si_enum rfl T.f_enumerate (se_var 0)) (sg_tup rfl (sgs_cons (sg_name 3 sc_over_arrows.nd) (sgs_cons (sg_name 4 sc_over_arrows.nd) sgs_nil))) (ss_end [3, 4, 5, 6] (ss_one (ss_wp [5, 6] (ss_for passB rfl (si_seq (se_call (ok_things_in T) (hr.mono (by decide)) hgd rfl T.g_things_in T.k_things_in T.b_things_in (sa_cons (se_var 4) (sa_cons (se_gstr rfl T.c_MARK) sa_nil)))) (sg_name 5 sc_over_arrows.nd) (ss_end [5, 6] (ss_cons (ss_setLc 6 [("one", 7)] fin_fz rfl sc_over_arrows.nd (si_seq (se_call (ok_markers T) (hr.mono (by decide)) hgd rfl T.g_markers T.k_markers T.b_markers (sa_cons (se_var 0) (sa_cons (se_var 3) (sa_cons (se_var 5) sa_nil))))) (blkOk_by (N := ["lot", "times", "found", "number", "deed", "thing", "later", "one"]) (sc := defScope (top 39)) (by decide +kernel)) (fun _ _ _ _ _ => (sg_name 7 sc_over_arrows.nd)) (fun _ _ _ _ _ => (pts_0 (st_cmp op_lt' (se_ix ix_item (se_ix ix_item (se_var 1) (se_var 3)) (se_un un_neg' se_int)) (se_ix ix_item (se_ix ix_item (se_var 1) (se_var 7)) (se_un un_neg' se_int))))) (fun _ _ _ _ _ => pe_0 (se_var 7))) (ss_one (ss_expr (se_mt PySem.F.plainAttrs_list PySem.F.slot_list_extend PySem.F.type_list_extend mt_extend' chk_list (se_var 2) (sa_cons (se_lc [("one", 7)] fin_fz rfl sc_over_arrows.nd (si_seq (se_var 6)) (blkOk_by (N := ["lot", "times", "found", "number", "deed", "thing", "later", "one"]) (sc := defScope (top 39)) (by decide +kernel)) (fun _ _ _ _ _ => (sg_name 7 sc_over_arrows.nd)) (fun _ _ _ _ _ => pts_yes) (fun _ _ _ _ _ => pe_0 (se_tup (sa_cons (se_var 3) (sa_cons (se_var 7) (sa_cons (se_gstr rfl T.c_OVER) sa_nil)))))) sa_nil)))))))))))) (ss_one (ss_ret (se_var 2)))))
theorem okk_over_arrows (T : Txt K mg) : FnG P w K mg base 2 (He.ga K "over_arrows") (fdOf K (He.ga K "over_arrows")) ["lot", "times"] mk_over_arrows := (rawk_over_arrows T).make
/-! arrows_in -/
theorem sc_arrows_in : FnScope ["lot", "levels", "times", "found", "triple", "arrow"] ["lot", "levels", "times"] (defScope (top 40)) := ⟨rfl, rfl, rfl, by decide +kernel, rfl, by decide +kernel, by decide +kernel⟩
theorem raw_arrows_in (T : Txt K mg) : FnG P w K mg base 4 (He.ga K "arrows_in") (fdOf K (He.ga K "arrows_in")) ["lot", "levels", "times"] (bodyF 6 t_arrows_in) :=
  fn_g T.F_arrows_in sc_arrows_in fun cdv A outer s H E hr hgd => (ss_cons (ss_set 3 sc_arrows_in.nd (se_call (okk_over_arrows T) (hr.mono (by decide)) hgd rfl T.g_over_arrows T.k_over_arrows T.b_over_arrows (sa_cons (se_var 0) (sa_cons (se_var 2) sa_nil)))) (ss_cons (ss_wp [4] (ss_for passB rfl (si_seq (se_call (ok_seen_in T) (hr.mono (by decide)) hgd rfl T.g_seen_in T.k_seen_in T.b_seen_in (sa_cons (se_var 0) (sa_cons (se_var 1) (sa_cons (se_var 2) sa_nil))))) (sg_name 4 sc_arrows_in.nd) (ss_end [4] (ss_one (ss_expr (se_mt PySem.F.plainAttrs_list PySem.F.slot_list_extend PySem.F.type_list_extend mt_extend' chk_list (se_var 3) (sa_cons (se_call (ok_look_arrows T) (hr.mono (by decide)) hgd rfl T.g_look_arrows T.k_look_arrows T.b_look_arrows (sa_cons (se_var 0) (sa_cons (se_var 2) (sa_cons (se_var 4) sa_nil)))) sa_nil))))))) (ss_one (ss_frz 3 (ss_ret (se_callB (cl_sorted (hu65 hr)) rfl T.f_sorted (by decide +kernel) (sa_cons (se_trim (se_callTy (cl_listU rfl) rfl T.f_list (by decide +kernel) (sa_cons (se_du [("arrow", 5)] (hu0 hr) rfl sc_arrows_in.nd (si_seq (se_var 3)) (blkOk_by (N := ["lot", "levels", "times", "found", "triple", "arrow"]) (sc := defScope (top 40)) (by decide +kernel)) (fun _ _ _ _ _ => (sg_name 5 sc_arrows_in.nd)) (fun _ _ _ _ _ => pts_yes) (fun _ _ _ _ _ => pe_0 (se_var 5)) (fun _ _ _ _ _ => pe_0 se_bl)) sa_nil))) sa_nil)))))))
theorem ok_arrows_in (T : Txt K mg) : FnG P w K mg base 4 (He.ga K "arrows_in") (fdOf K (He.ga K "arrows_in")) ["lot", "levels", "times"] m_arrows_in := (raw_arrows_in T).pure
/-! arrows -/
theorem sc_arrows : FnScope ["lot", "levels", "run"] ["lot", "levels", "run"] (defScope (top 41)) := ⟨rfl, rfl, rfl, by decide +kernel, rfl, by decide +kernel, by decide +kernel⟩
theorem raw_arrows (T : Txt K mg) : FnG P w K mg base 9 (He.ga K "arrows") (fdOf K (He.ga K "arrows")) ["lot", "levels", "run"] (bodyF 3 t_arrows) :=
  fn_g T.F_arrows sc_arrows fun cdv A outer s H E hr hgd => (ss_cons (ss_expr (se_call (ok_need_all T) (hr.mono (by decide)) hgd rfl T.g_need_all T.k_need_all T.b_need_all (sa_cons (se_var 0) (sa_cons (se_var 1) (sa_cons (se_var 2) sa_nil))))) (ss_one (ss_ret (se_callTy cl_tuple rfl T.f_tuple (by decide +kernel) (sa_cons (se_call (ok_arrows_in T) (hr.mono (by decide)) hgd rfl T.g_arrows_in T.k_arrows_in T.b_arrows_in (sa_cons (se_var 0) (sa_cons (se_var 1) (sa_cons (se_call (ok_times_of T) (hr.mono (by decide)) hgd rfl T.g_times_of T.k_times_of T.b_times_of (sa_cons (se_var 0) (sa_cons (se_var 2) sa_nil))) sa_nil)))) sa_nil)))))
theorem ok_arrows (T : Txt K mg) : FnG P w K mg base 9 (He.ga K "arrows") (fdOf K (He.ga K "arrows")) ["lot", "levels", "run"] m_arrows := (raw_arrows T).pure
/-! _law_begun -/
theorem sc_l_begun : FnScope ["_law_script", "_law_k", "_law_cells", "_law_great", "_law_seed", "_law_cell"] ["_law_script", "_law_k"] (defScope (top 43)) := ⟨rfl, rfl, rfl, by decide +kernel, rfl, by decide +kernel, by decide +kernel⟩
theorem raw_l_begun (T : Txt K mg) : FnG P w K mg base 1 (He.ga K "_law_begun") (fdOf K (He.ga K "_law_begun")) ["_law_script", "_law_k"] (bodyF 6 t_l_begun) :=
  fn_g T.F_l_begun sc_l_begun fun cdv A outer s H E hr hgd => (ss_cons (ss_set 2 sc_l_begun.nd (se_bin op_add' (se_sl sl_any (se_var 0) (so_part (se_var 1)) so_no) (se_sl sl_any (se_var 0) so_no (so_part (se_var 1))))) (ss_cons (ss_setLc 3 [("_law_cell", 5)] fin_fz rfl sc_l_begun.nd (si_seq (se_var 2)) (blkOk_by (N := ["_law_script", "_law_k", "_law_cells", "_law_great", "_law_seed", "_law_cell"]) (sc := defScope (top 43)) (by decide +kernel)) (fun _ _ _ _ _ => (sg_name 5 sc_l_begun.nd)) (fun _ _ _ _ _ => (pts_0 (st_cmp op_ge' (se_var 5) (se_bin op_pow' se_int se_int)))) (fun _ _ _ _ _ => pe_0 (se_var 5))) (ss_cons (ss_set 4 sc_l_begun.nd (se_bin op_add' se_int (se_var 1))) (ss_cons (ss_wp [5] (ss_for passB rfl (si_seq (se_var 2)) (sg_name 5 sc_l_begun.nd) (ss_end [5] (ss_one (ss_set 4 sc_l_begun.nd (se_bin op_mod' (se_callTy cl_int rfl T.f_int (by decide +kernel) (sa_cons (se_bin op_add' (se_bin op_mulT (se_var 4) se_int) (se_var 5)) sa_nil)) se_int)))))) (ss_one (ss_ret (se_disp (ts := [((sxC (.str "left")), (sxIf (stB (sx2 vNe (sxVar 3) (sxN vLst saNil))) (sx2 vItem (sxVar 3) (sxC (.int 0))) (sxC (.int 0)))), ((sxC (.str "seed")), (sxVar 4)), ((sxC (.str "cells")), (sx2 vAdd (sxVar 2) (sxN vLst (saCons (sx2 vAdd (sx2 vMulT (sxC (.int 29)) (sxVar 1)) (sxC (.int 7))) saNil)))), ((sxC (.str "spot")), (sxC (.int 0)))]) (pps_cons se_str (se_if (st_cmp (op_ne' (hu64 hr)) (se_var 3) (se_lst sa_nil)) (se_ix ix_item (se_var 3) se_int) se_int) (pps_cons se_str (se_var 4) (pps_cons se_str (se_bin op_add' (se_var 2) (se_lst (sa_cons (se_bin op_add' (se_bin op_mulT se_int (se_var 1)) se_int) sa_nil))) (pps_cons se_str se_int pps_nil)))))))))))
theorem ok_l_begun (T : Txt K mg) : FnG P w K mg base 1 (He.ga K "_law_begun") (fdOf K (He.ga K "_law_begun")) ["_law_script", "_law_k"] m_l_begun := (raw_l_begun T).make
/-! _law_draw -/
theorem sc_l_draw : FnScope ["_law_m", "_law_many", "_law_found", "_law_spot", "_law_cells", "_law_added", "_law_cell", "_law_blend"] ["_law_m", "_law_many"] (defScope (top 44)) := ⟨rfl, rfl, rfl, by decide +kernel, rfl, by decide +kernel, by decide +kernel⟩
theorem raw_l_draw (T : Txt K mg) : FnG P w K mg base 1 (He.ga K "_law_draw") (fdOf K (He.ga K "_law_draw")) ["_law_m", "_law_many"] (bodyF 8 t_l_draw) :=
  fn_g T.F_l_draw sc_l_draw fun cdv A outer s H E hr hgd => (ss_cons (ss_if (st_cmp op_gt' (se_dget (hu1 hr) (se_var 0) se_str) se_int) (ss_cons (ss_set 2 sc_l_draw.nd (se_bin op_mod' (se_callTy cl_int rfl T.f_int (by decide +kernel) (sa_cons (se_dget (hu1 hr) (se_var 0) se_str) sa_nil)) (se_var 1))) (ss_cons (ss_sub (hu1 hr) (se_var 0) se_str (se_bin op_fdiv' (se_dget (hu1 hr) (se_var 0) se_str) (se_var 1))) (ss_one (ss_ret (se_var 2))))) ss_nil) (ss_cons (ss_set 3 sc_l_draw.nd (se_dget (hu1 hr) (se_var 0) se_str)) (ss_cons (ss_sub (hu1 hr) (se_var 0) se_str (se_bin op_add' (se_var 3) se_int)) (ss_cons (ss_par 4 5 rfl sc_l_draw.nd (sa_cons (se_dget (hu1 hr) (se_var 0) se_str) (sa_cons (se_bin op_add' (se_dget (hu1 hr) (se_var 0) se_str) (se_bin op_mulT (se_bin op_mulT se_int (se_var 3)) (se_var 3))) sa_nil))) (ss_cons (ss_set 6 sc_l_draw.nd (se_ix ix_item (se_var 4) (se_bin op_mod' (se_callTy cl_int rfl T.f_int (by decide +kernel) (sa_cons (se_var 3) sa_nil)) (se_callB (cl_len) rfl T.f_len (by decide +kernel) (sa_cons (se_var 4) sa_nil))))) (ss_cons (ss_set 7 sc_l_draw.nd (se_bin op_mod' (se_callTy cl_int rfl T.f_int (by decide +kernel) (sa_cons (se_bin op_add' (se_bin op_mulT (se_var 6) (se_bin op_add' (se_bin op_mulT se_int (se_var 3)) se_int)) (se_var 5)) sa_nil)) se_int)) (ss_cons (ss_set 7 sc_l_draw.nd (se_bin op_mod' (se_callTy cl_int rfl T.f_int (by decide +kernel) (sa_cons (se_bin op_add' (se_bin op_add' (se_bin op_mulT (se_var 7) (se_var 7)) (se_bin op_mulT se_int (se_var 3))) (se_dget (hu1 hr) (se_var 0) se_str)) sa_nil)) se_int)) (ss_one (ss_ret (se_bin op_mod' (se_bin op_fdiv' (se_bin op_mod' (se_callTy cl_int rfl T.f_int (by decide +kernel) (sa_cons (se_bin op_add' (se_bin op_mulT (se_var 7) se_int) (se_var 3)) sa_nil)) se_int) se_int) (se_var 1)))))))))))
theorem ok_l_draw (T : Txt K mg) : FnG P w K mg base 1 (He.ga K "_law_draw") (fdOf K (He.ga K "_law_draw")) ["_law_m", "_law_many"] m_l_draw := (raw_l_draw T).obj
/-! _law_of -/
theorem sc_l_of : FnScope ["_law_m", "_law_some"] ["_law_m", "_law_some"] (defScope (top 45)) := ⟨rfl, rfl, rfl, by decide +kernel, rfl, by decide +kernel, by decide +kernel⟩
theorem raw_l_of (T : Txt K mg) : FnG P w K mg base 2 (He.ga K "_law_of") (fdOf K (He.ga K "_law_of")) ["_law_m", "_law_some"] (bodyF 2 t_l_of) :=
  fn_g T.F_l_of sc_l_of fun cdv A outer s H E hr hgd => (ss_one (ss_ret (se_ix ix_item (se_var 1) (se_call (ok_l_draw T) (hr.mono (by decide)) hgd rfl T.g_l_draw T.k_l_draw T.b_l_draw (sa_cons (se_var 0) (sa_cons (se_callB (cl_len) rfl T.f_len (by decide +kernel) (sa_cons (se_var 1) sa_nil)) sa_nil))))))
theorem ok_l_of (T : Txt K mg) : FnG P w K mg base 2 (He.ga K "_law_of") (fdOf K (He.ga K "_law_of")) ["_law_m", "_law_some"] m_l_of := (raw_l_of T).obj
/-! _law_deed -/
theorem sc_l_deed : FnScope ["_law_m", "_law_words", "_law_long", "_law_found", "_law_k", "_law_step"] ["_law_m", "_law_words", "_law_long"] (defScope (top 46)) := ⟨rfl, rfl, rfl, by decide +kernel, rfl, by decide +kernel, by decide +kernel⟩
theorem raw_l_deed (T : Txt K mg) : FnG P w K mg base 3 (He.ga K "_law_deed") (fdOf K (He.ga K "_law_deed")) ["_law_m", "_law_words", "_law_long"] (bodyF 6 t_l_deed) :=
  fn_g T.F_l_deed sc_l_deed fun cdv A outer s H E hr hgd => (ss_cons (ss_set 3 sc_l_deed.nd (se_new sa_nil)) (ss_cons (ss_wp [4, 5] (ss_for passB rfl (si_range1 rfl T.f_range (se_bin op_add' se_int (se_call (ok_l_draw T) (hr.mono (by decide)) hgd rfl T.g_l_draw T.k_l_draw T.b_l_draw (sa_cons (se_var 0) (sa_cons (se_var 2) sa_nil))))) (sg_name 4 sc_l_deed.nd) (ss_end [4, 5] (ss_cons (ss_set 5 sc_l_deed.nd (se_tup (sa_cons (se_ix ix_item (se_lst (sa_cons se_str (sa_cons se_str sa_nil))) (se_call (ok_l_draw T) (hr.mono (by decide)) hgd rfl T.g_l_draw T.k_l_draw T.b_l_draw (sa_cons (se_var 0) (sa_cons se_int sa_nil)))) (sa_cons (se_call (ok_l_of T) (hr.mono (by decide)) hgd rfl T.g_l_of T.k_l_of T.b_l_of (sa_cons (se_var 0) (sa_cons (se_var 1) sa_nil))) sa_nil)))) (ss_one (ss_if (PW.pt (st_and (st_cmp (op_notIn' (hu65 hr)) (se_var 5) (se_var 3)) (st_and1 (PW.pt (st_or (st_cmp (op_eq' (hu64 hr)) (se_ix ix_item (se_var 5) se_int) se_str) (st_or1 (st_cmp (op_notIn' (hu65 hr)) (se_tup (sa_cons se_str (sa_cons (se_ix ix_item (se_var 5) se_int) sa_nil))) (se_var 3)))))))) (ss_one (ss_expr (se_mt PySem.F.plainAttrs_list PySem.F.slot_list_append PySem.F.type_list_append mt_append' chk_list (se_var 3) (sa_cons (se_var 5) sa_nil)))) ss_nil)))))) (ss_one (ss_frz 3 (ss_ret (se_callTy cl_tuple rfl T.f_tuple (by decide +kernel) (sa_cons (se_var 3) sa_nil)))))))
theorem ok_l_deed (T : Txt K mg) : FnG P w K mg base 3 (He.ga K "_law_deed") (fdOf K (He.ga K "_law_deed")) ["_law_m", "_law_words", "_law_long"] m_l_deed := (raw_l_deed T).obj
/-! _law_crew -/
theorem sc_l_crew : FnScope ["_law_m", "_law_many", "_law_long", "_law_words", "_law_k"] ["_law_m", "_law_many", "_law_long"] (defScope (top 47)) := ⟨rfl, rfl, rfl, by decide +kernel, rfl, by decide +kernel, by decide +kernel⟩
theorem raw_l_crew (T : Txt K mg) : FnG P w K mg base 4 (He.ga K "_law_crew") (fdOf K (He.ga K "_law_crew")) ["_law_m", "_law_many", "_law_long"] (bodyF 5 t_l_crew) :=
  fn_g T.F_l_crew sc_l_crew fun cdv A outer s H E hr hgd => (ss_cons (ss_set 3 sc_l_crew.nd (se_call (ok_l_of T) (hr.mono (by decide)) hgd rfl T.g_l_of T.k_l_of T.b_l_of (sa_cons (se_var 0) (sa_cons (se_lst (sa_cons (se_lst (sa_cons se_str sa_nil)) (sa_cons (se_lst (sa_cons se_str (sa_cons se_str sa_nil))) (sa_cons (se_lst (sa_cons se_str (sa_cons se_str (sa_cons se_str sa_nil)))) (sa_cons (se_lst (sa_cons se_str (sa_cons se_str (sa_cons se_str sa_nil)))) (sa_cons (se_lst (sa_cons se_str (sa_cons se_str sa_nil))) (sa_cons (se_lst (sa_cons se_str (sa_cons se_str (sa_cons se_str (sa_cons se_str sa_nil))))) sa_nil))))))) sa_nil)))) (ss_one (ss_ret (se_callTy cl_tuple rfl T.f_tuple (by decide +kernel) (sa_cons (se_lc [("_law_k", 4)] fin_fz rfl sc_l_crew.nd (si_range1 rfl T.f_range (se_bin op_add' se_int (se_call (ok_l_draw T) (hr.mono (by decide)) hgd rfl T.g_l_draw T.k_l_draw T.b_l_draw (sa_cons (se_var 0) (sa_cons (se_var 1) sa_nil))))) (blkOk_by (N := ["_law_m", "_law_many", "_law_long", "_law_words", "_law_k"]) (sc := defScope (top 47)) (by decide +kernel)) (fun _ _ _ _ _ => (sg_name 4 sc_l_crew.nd)) (fun _ _ _ _ _ => pts_yes) (fun _ _ _ _ _ => pe_0 (se_call (ok_l_deed T) (hr.mono (by decide)) hgd rfl T.g_l_deed T.k_l_deed T.b_l_deed (sa_cons (se_var 0) (sa_cons (se_var 3) (sa_cons (se_var 2) sa_nil)))))) sa_nil)))))
theorem ok_l_crew (T : Txt K mg) : FnG P w K mg base 4 (He.ga K "_law_crew") (fdOf K (He.ga K "_law_crew")) ["_law_m", "_law_many", "_law_long"] m_l_crew := (raw_l_crew T).obj
/-! _law_tiers -/
theorem sc_l_tiers : FnScope ["_law_m", "_law_crew_here", "_law_deed_here"] ["_law_m", "_law_crew_here"] (defScope (top 48)) := ⟨rfl, rfl, rfl, by decide +kernel, rfl, by decide +kernel, by decide +kernel⟩
theorem raw_l_tiers (T : Txt K mg) : FnG P w K mg base 2 (He.ga K "_law_tiers") (fdOf K (He.ga K "_law_tiers")) ["_law_m", "_law_crew_here"] (bodyF 3 t_l_tiers) :=
  fn_g T.F_l_tiers sc_l_tiers fun cdv A outer s H E hr hgd => (ss_one (ss_ret (se_callTy cl_tuple rfl T.f_tuple (by decide +kernel) (sa_cons (se_lc [("_law_deed_here", 2)] fin_fz rfl sc_l_tiers.nd (si_seq (se_var 1)) (blkOk_by (N := ["_law_m", "_law_crew_here", "_law_deed_here"]) (sc := defScope (top 48)) (by decide +kernel)) (fun _ _ _ _ _ => (sg_name 2 sc_l_tiers.nd)) (fun _ _ _ _ _ => pts_yes) (fun _ _ _ _ _ => pe_0 (se_ix ix_item (se_lst (sa_cons se_str (sa_cons se_str (sa_cons se_str sa_nil)))) (se_call (ok_l_draw T) (hr.mono (by decide)) hgd rfl T.g_l_draw T.k_l_draw T.b_l_draw (sa_cons (se_var 0) (sa_cons se_int sa_nil)))))) sa_nil))))
theorem ok_l_tiers (T : Txt K mg) : FnG P w K mg base 2 (He.ga K "_law_tiers") (fdOf K (He.ga K "_law_tiers")) ["_law_m", "_law_crew_here"] m_l_tiers := (raw_l_tiers T).obj
/-! _law_course -/
theorem sc_l_course : FnScope ["_law_m", "_law_crew_here", "_law_left", "_law_found", "_law_some", "_law_k", "_law_deed_here"] ["_law_m", "_law_crew_here"] (defScope (top 49)) := ⟨rfl, rfl, rfl, by decide +kernel, rfl, by decide +kernel, by decide +kernel⟩
theorem raw_l_course (T : Txt K mg) : FnG P w K mg base 2 (He.ga K "_law_course") (fdOf K (He.ga K "_law_course")) ["_law_m", "_law_crew_here"] (bodyF 7 t_l_course) :=
  fn_g T.F_l_course sc_l_course fun cdv A outer s H E hr hgd => (ss_cons (ss_asg (se_tup (sa_cons (se_lc [("_law_deed_here", 6)] fin_nw rfl sc_l_course.nd (si_seq (se_var 1)) (blkOk_by (N := ["_law_m", "_law_crew_here", "_law_left", "_law_found", "_law_some", "_law_k", "_law_deed_here"]) (sc := defScope (top 49)) (by decide +kernel)) (fun _ _ _ _ _ => (sg_name 6 sc_l_course.nd)) (fun _ _ _ _ _ => pts_yes) (fun _ _ _ _ _ => pe_0 (se_bin op_add' (se_callB (cl_len) rfl T.f_len (by decide +kernel) (sa_cons (se_var 6) sa_nil)) se_int))) (sa_cons (se_new sa_nil) sa_nil))) (sg_tup rfl (sgs_cons (sg_name 2 sc_l_course.nd) (sgs_cons (sg_name 3 sc_l_course.nd) sgs_nil)))) (ss_cons (ss_wp [4] (ss_while 1000000 passB (st_cmp op_gt' (se_callB (cl_sum rfl) rfl T.f_sum (by decide +kernel) (sa_cons (se_var 2) sa_nil)) se_int) (ss_end [4] (ss_cons (ss_setLc 4 [("_law_k", 5)] fin_fz rfl sc_l_course.nd (si_range1 rfl T.f_range (se_callB (cl_len) rfl T.f_len (by decide +kernel) (sa_cons (se_var 1) sa_nil))) (blkOk_by (N := ["_law_m", "_law_crew_here", "_law_left", "_law_found", "_law_some", "_law_k", "_law_deed_here"]) (sc := defScope (top 49)) (by decide +kernel)) (fun _ _ _ _ _ => (sg_name 5 sc_l_course.nd)) (fun _ _ _ _ _ => (pts_0 (st_cmp op_gt' (se_ix ix_item (se_var 2) (se_var 5)) se_int))) (fun _ _ _ _ _ => pe_0 (se_var 5))) (ss_cons (ss_set 5 sc_l_course.nd (se_ix ix_item (se_var 4) (se_call (ok_l_draw T) (hr.mono (by decide)) hgd rfl T.g_l_draw T.k_l_draw T.b_l_draw (sa_cons (se_var 0) (sa_cons (se_callB (cl_len) rfl T.f_len (by decide +kernel) (sa_cons (se_var 4) sa_nil)) sa_nil))))) (ss_cons (ss_if (PW.pt (st_and (st_cmp (op_ne' (hu64 hr)) (se_var 3) (se_lst sa_nil)) (st_and (st_cmp op_gt' (se_ix ix_item (se_var 2) (se_ix ix_item (se_var 3) (se_un un_neg' se_int))) se_int) (st_and1 (st_cmp (op_eq' (hu64 hr)) (se_call (ok_l_draw T) (hr.mono (by decide)) hgd rfl T.g_l_draw T.k_l_draw T.b_l_draw (sa_cons (se_var 0) (sa_cons se_int sa_nil))) se_int))))) (ss_one (ss_set 5 sc_l_course.nd (se_ix ix_item (se_var 3) (se_un un_neg' se_int)))) ss_nil) (ss_cons (ss_sub (hu1 hr) (se_var 2) (se_var 5) (se_bin op_sub' (se_ix ix_item (se_var 2) (se_var 5)) se_int)) (ss_one (ss_expr (se_mt PySem.F.plainAttrs_list PySem.F.slot_list_append PySem.F.type_list_append mt_append' chk_list (se_var 3) (sa_cons (se_var 5) sa_nil))))))))))) (ss_one (ss_frz 3 (ss_ret (se_callTy cl_tuple rfl T.f_tuple (by decide +kernel) (sa_cons (se_var 3) sa_nil)))))))
theorem ok_l_course (T : Txt K mg) : FnG P w K mg base 2 (He.ga K "_law_course") (fdOf K (He.ga K "_law_course")) ["_law_m", "_law_crew_here"] m_l_course := (raw_l_course T).obj
/-! _law_all_courses -/
theorem sc_l_all_courses : FnScope ["_law_crew_here", "_law_whole", "_law_rows", "_law_turn", "_law_longer", "_law_row", "_law_k", "_law_deed_here", "_law_one"] ["_law_crew_here"] (defScope (top 50)) := ⟨rfl, rfl, rfl, by decide +kernel, rfl, by decide +kernel, by decide +kernel⟩
theorem raw_l_all_courses (T : Txt K mg) : FnG P w K mg base 1 (He.ga K "_law_all_courses") (fdOf K (He.ga K "_law_all_courses")) ["_law_crew_here"] (bodyF 9 t_l_all_courses) :=
  fn_g T.F_l_all_courses sc_l_all_courses fun cdv A outer s H E hr hgd => (ss_cons (ss_par 1 2 rfl sc_l_all_courses.nd (sa_cons (se_callB (cl_sum rfl) rfl T.f_sum (by decide +kernel) (sa_cons (se_lc [("_law_deed_here", 7)] fin_fz rfl sc_l_all_courses.nd (si_seq (se_var 0)) (blkOk_by (N := ["_law_crew_here", "_law_whole", "_law_rows", "_law_turn", "_law_longer", "_law_row", "_law_k", "_law_deed_here", "_law_one"]) (sc := defScope (top 50)) (by decide +kernel)) (fun _ _ _ _ _ => (sg_name 7 sc_l_all_courses.nd)) (fun _ _ _ _ _ => pts_yes) (fun _ _ _ _ _ => pe_0 (se_bin op_add' (se_callB (cl_len) rfl T.f_len (by decide +kernel) (sa_cons (se_var 7) sa_nil)) se_int))) sa_nil)) (sa_cons (se_lst (sa_cons (se_tup sa_nil) sa_nil)) sa_nil))) (ss_cons (ss_wp [3, 4, 5, 6] (ss_for passB rfl (si_range1 rfl T.f_range (se_var 1)) (sg_name 3 sc_l_all_courses.nd) (ss_loc [3, 4, 5, 6] (ss_cons (ss_set 4 sc_l_all_courses.nd (se_new sa_nil)) (ss_cons (ss_wp [5, 6] (ss_for passB rfl (si_seq (se_var 2)) (sg_name 5 sc_l_all_courses.nd) (ss_end [5, 6] (ss_one (ss_wp [6] (ss_for passB rfl (si_range1 rfl T.f_range (se_callB (cl_len) rfl T.f_len (by decide +kernel) (sa_cons (se_var 0) sa_nil))) (sg_name 6 sc_l_all_courses.nd) (ss_end [6] (ss_one (ss_if (st_cmp op_lt' (se_callB (cl_len) rfl T.f_len (by decide +kernel) (sa_cons (se_lc [("_law_one", 8)] fin_fz rfl sc_l_all_courses.nd (si_seq (se_var 5)) (blkOk_by (N := ["_law_crew_here", "_law_whole", "_law_rows", "_law_turn", "_law_longer", "_law_row", "_law_k", "_law_deed_here", "_law_one"]) (sc := defScope (top 50)) (by decide +kernel)) (fun _ _ _ _ _ => (sg_name 8 sc_l_all_courses.nd)) (fun _ _ _ _ _ => (pts_0 (st_cmp (op_eq' (hu64 hr)) (se_var 8) (se_var 6)))) (fun _ _ _ _ _ => pe_0 (se_var 8))) sa_nil)) (se_bin op_add' (se_callB (cl_len) rfl T.f_len (by decide +kernel) (sa_cons (se_ix ix_item (se_var 0) (se_var 6)) sa_nil)) se_int)) (ss_one (ss_expr (se_mt PySem.F.plainAttrs_list PySem.F.slot_list_append PySem.F.type_list_append mt_append' chk_list (se_var 4) (sa_cons (se_bin op_add' (se_var 5) (se_tup (sa_cons (se_var 6) sa_nil))) sa_nil)))) ss_nil))))))))) (ss_one (ss_frz 4 (ss_set 2 sc_l_all_courses.nd (se_var 4))))))))) (ss_one (ss_ret (se_var 2)))))
theorem ok_l_all_courses (T : Txt K mg) : FnG P w K mg base 1 (He.ga K "_law_all_courses") (fdOf K (He.ga K "_law_all_courses")) ["_law_crew_here"] m_l_all_courses := (raw_l_all_courses T).pure
/-! _law_clocks -/
theorem sc_l_clocks : FnScope ["_law_crew_here", "_law_course_here", "_law_found", "_law_spot", "_law_k", "_law_deed_here"] ["_law_crew_here", "_law_course_here"] (defScope (top 51)) := ⟨rfl, rfl, rfl, by decide +kernel, rfl, by decide +kernel, by decide +kernel⟩
theorem raw_l_clocks (T : Txt K mg) : FnG P w K mg base 1 (He.ga K "_law_clocks") (fdOf K (He.ga K "_law_clocks")) ["_law_crew_here", "_law_course_here"] (bodyF 6 t_l_clocks) :=
  fn_g T.F_l_clocks sc_l_clocks fun cdv A outer s H E hr hgd => (ss_cons (ss_setLc 2 [("_law_deed_here", 5)] fin_fz rfl sc_l_clocks.nd (si_seq (se_var 0)) (blkOk_by (N := ["_law_crew_here", "_law_course_here", "_law_found", "_law_spot", "_law_k", "_law_deed_here"]) (sc := defScope (top 51)) (by decide +kernel)) (fun _ _ _ _ _ => (sg_name 5 sc_l_clocks.nd)) (fun _ _ _ _ _ => pts_yes) (fun _ _ _ _ _ => pe_0 (se_new sa_nil))) (ss_cons (ss_wp [3, 4] (ss_for passB rfl (si_enum rfl T.f_enumerate (se_var 1)) (sg_tup rfl (sgs_cons (sg_name 3 sc_l_clocks.nd) (sgs_cons (sg_name 4 sc_l_clocks.nd) sgs_nil))) (ss_end [3, 4] (ss_one (ss_expr (se_mt PySem.F.plainAttrs_list PySem.F.slot_list_append PySem.F.type_list_append mt_append' chk_list (se_ix ix_item (se_var 2) (se_var 4)) (sa_cons (se_var 3) sa_nil))))))) (ss_one (ss_ret (se_var 2)))))
theorem ok_l_clocks (T : Txt K mg) : FnG P w K mg base 1 (He.ga K "_law_clocks") (fdOf K (He.ga K "_law_clocks")) ["_law_crew_here", "_law_course_here"] m_l_clocks := (raw_l_clocks T).pure
/-! _law_marks -/
theorem sc_l_marks : FnScope ["_law_deed_here", "_law_word"] ["_law_deed_here", "_law_word"] (defScope (top 52)) := ⟨rfl, rfl, rfl, by decide +kernel, rfl, by decide +kernel, by decide +kernel⟩
theorem raw_l_marks (T : Txt K mg) : FnG P w K mg base 1 (He.ga K "_law_marks") (fdOf K (He.ga K "_law_marks")) ["_law_deed_here", "_law_word"] (bodyF 2 t_l_marks) :=
  fn_g T.F_l_marks sc_l_marks fun cdv A outer s H E hr hgd => (ss_one (ss_ret (se_cmp (op_in' (hu65 hr)) (se_tup (sa_cons se_str (sa_cons (se_var 1) sa_nil))) (se_var 0))))
theorem ok_l_marks (T : Txt K mg) : FnG P w K mg base 1 (He.ga K "_law_marks") (fdOf K (He.ga K "_law_marks")) ["_law_deed_here", "_law_word"] m_l_marks := (raw_l_marks T).pure
/-! _law_sight -/
theorem sc_l_sight : FnScope ["_law_crew_here", "_law_tiers_here", "_law_clocks_here", "_law_k", "_law_place", "_law_spot", "_law_word", "_law_best", "_law_one"] ["_law_crew_here", "_law_tiers_here", "_law_clocks_here", "_law_k", "_law_place"] (defScope (top 53)) := ⟨rfl, rfl, rfl, by decide +kernel, rfl, by decide +kernel, by decide +kernel⟩
theorem raw_l_sight (T : Txt K mg) : FnG P w K mg base 2 (He.ga K "_law_sight") (fdOf K (He.ga K "_law_sight")) ["_law_crew_here", "_law_tiers_here", "_law_clocks_here", "_law_k", "_law_place"] (bodyF 9 t_l_sight) :=
  fn_g T.F_l_sight sc_l_sight fun cdv A outer s H E hr hgd => (ss_cons (ss_par 5 6 rfl sc_l_sight.nd (sa_cons (se_ix ix_item (se_ix ix_item (se_var 2) (se_var 3)) se_int) (sa_cons (se_ix ix_item (se_ix ix_item (se_ix ix_item (se_var 0) (se_var 3)) (se_var 4)) se_int) sa_nil))) (ss_cons (ss_if (st_cmp (op_eq' (hu64 hr)) (se_ix ix_item (se_var 1) (se_var 3)) se_str) (ss_one (ss_set 5 sc_l_sight.nd (se_ix ix_item (se_ix ix_item (se_var 2) (se_var 3)) (se_var 4)))) ss_nil) (ss_cons (ss_set 7 sc_l_sight.nd se_non) (ss_cons (ss_wp [8] (ss_for passB rfl (si_range1 rfl T.f_range (se_callB (cl_len) rfl T.f_len (by decide +kernel) (sa_cons (se_var 0) sa_nil))) (sg_name 8 sc_l_sight.nd) (ss_end [8] (ss_one (ss_if (PW.pt (st_and (st_cmp (op_ne' (hu64 hr)) (se_var 8) (se_var 3)) (st_and (st_val (se_call (ok_l_marks T) (hr.mono (by decide)) hgd rfl T.g_l_marks T.k_l_marks T.b_l_marks (sa_cons (se_ix ix_item (se_var 0) (se_var 8)) (sa_cons (se_var 6) sa_nil)))) (st_and1 (st_cmp op_lt' (se_ix ix_item (se_ix ix_item (se_var 2) (se_var 8)) (se_un un_neg' se_int)) (se_var 5)))))) (ss_one (ss_if (PW.pt (st_or (st_cmp op_isN' (se_var 7) se_non) (st_or1 (st_cmp op_gt' (se_ix ix_item (se_ix ix_item (se_var 2) (se_var 8)) (se_un un_neg' se_int)) (se_ix ix_item (se_ix ix_item (se_var 2) (se_var 7)) (se_un un_neg' se_int)))))) (ss_one (ss_set 7 sc_l_sight.nd (se_var 8))) ss_nil)) ss_nil))))) (ss_one (ss_ret (se_var 7)))))))
theorem ok_l_sight (T : Txt K mg) : FnG P w K mg base 2 (He.ga K "_law_sight") (fdOf K (He.ga K "_law_sight")) ["_law_crew_here", "_law_tiers_here", "_law_clocks_here", "_law_k", "_law_place"] m_l_sight := (raw_l_sight T).pure
/-! _law_looks -/
theorem sc_l_looks : FnScope ["_law_deed_here", "_law_place"] ["_law_deed_here"] (defScope (top 54)) := ⟨rfl, rfl, rfl, by decide +kernel, rfl, by decide +kernel, by decide +kernel⟩
theorem raw_l_looks (T : Txt K mg) : FnG P w K mg base 1 (He.ga K "_law_looks") (fdOf K (He.ga K "_law_looks")) ["_law_deed_here"] (bodyF 2 t_l_looks) :=
  fn_g T.F_l_looks sc_l_looks fun cdv A outer s H E hr hgd => (ss_one (ss_ret (se_lc [("_law_place", 1)] fin_fz rfl sc_l_looks.nd (si_range1 rfl T.f_range (se_callB (cl_len) rfl T.f_len (by decide +kernel) (sa_cons (se_var 0) sa_nil))) (blkOk_by (N := ["_law_deed_here", "_law_place"]) (sc := defScope (top 54)) (by decide +kernel)) (fun _ _ _ _ _ => (sg_name 1 sc_l_looks.nd)) (fun _ _ _ _ _ => (pts_0 (st_cmp (op_eq' (hu64 hr)) (se_ix ix_item (se_ix ix_item (se_var 0) (se_var 1)) se_int) se_str))) (fun _ _ _ _ _ => pe_0 (se_var 1)))))
theorem ok_l_looks (T : Txt K mg) : FnG P w K mg base 1 (He.ga K "_law_looks") (fdOf K (He.ga K "_law_looks")) ["_law_deed_here"] m_l_looks := (raw_l_looks T).pure
/-! _law_is_over -/
theorem sc_l_is_over : FnScope ["_law_crew_here", "_law_clocks_here", "_law_one", "_law_other", "_law_both", "_law_what", "_law_word"] ["_law_crew_here", "_law_clocks_here", "_law_one", "_law_other"] (defScope (top 55)) := ⟨rfl, rfl, rfl, by decide +kernel, rfl, by decide +kernel, by decide +kernel⟩
theorem raw_l_is_over (T : Txt K mg) : FnG P w K mg base 2 (He.ga K "_law_is_over") (fdOf K (He.ga K "_law_is_over")) ["_law_crew_here", "_law_clocks_here", "_law_one", "_law_other"] (bodyF 7 t_l_is_over) :=
  fn_g T.F_l_is_over sc_l_is_over fun cdv A outer s H E hr hgd => (ss_cons (ss_setLc 4 [("_law_what", 5), ("_law_word", 6)] fin_fz rfl sc_l_is_over.nd (si_seq (se_ix ix_item (se_var 0) (se_var 2))) (blkOk_by (N := ["_law_crew_here", "_law_clocks_here", "_law_one", "_law_other", "_law_both", "_law_what", "_law_word"]) (sc := defScope (top 55)) (by decide +kernel)) (fun _ _ _ _ _ => (sg_tup rfl (sgs_cons (sg_name 5 sc_l_is_over.nd) (sgs_cons (sg_name 6 sc_l_is_over.nd) sgs_nil)))) (fun _ _ _ _ _ => (pts_0 (PW.pt (st_and (st_cmp (op_eq' (hu64 hr)) (se_var 5) se_str) (st_and1 (st_val (se_call (ok_l_marks T) (hr.mono (by decide)) hgd rfl T.g_l_marks T.k_l_marks T.b_l_marks (sa_cons (se_ix ix_item (se_var 0) (se_var 3)) (sa_cons (se_var 6) sa_nil))))))))) (fun _ _ _ _ _ => pe_0 (se_var 6))) (ss_one (ss_ret (se_and (se_cmp (op_ne' (hu64 hr)) (se_var 4) (se_lst sa_nil)) (se_one (se_cmp op_lt' (se_ix ix_item (se_ix ix_item (se_var 1) (se_var 2)) (se_un un_neg' se_int)) (se_ix ix_item (se_ix ix_item (se_var 1) (se_var 3)) (se_un un_neg' se_int))))))))
theorem ok_l_is_over (T : Txt K mg) : FnG P w K mg base 2 (He.ga K "_law_is_over") (fdOf K (He.ga K "_law_is_over")) ["_law_crew_here", "_law_clocks_here", "_law_one", "_law_other"] m_l_is_over := (raw_l_is_over T).pure
/-! _law_is_shown -/
theorem sc_l_is_shown : FnScope ["_law_crew_here", "_law_tiers_here", "_law_clocks_here", "_law_one", "_law_other", "_law_place", "_law_sight_here"] ["_law_crew_here", "_law_tiers_here", "_law_clocks_here", "_law_one", "_law_other"] (defScope (top 56)) := ⟨rfl, rfl, rfl, by decide +kernel, rfl, by decide +kernel, by decide +kernel⟩
theorem raw_l_is_shown (T : Txt K mg) : FnG P w K mg base 3 (He.ga K "_law_is_shown") (fdOf K (He.ga K "_law_is_shown")) ["_law_crew_here", "_law_tiers_here", "_law_clocks_here", "_law_one", "_law_other"] (bodyF 7 t_l_is_shown) :=
  fn_g T.F_l_is_shown sc_l_is_shown fun cdv A outer s H E hr hgd => (ss_cons (ss_wp [5, 6] (ss_for passB rfl (si_seq (se_call (ok_l_looks T) (hr.mono (by decide)) hgd rfl T.g_l_looks T.k_l_looks T.b_l_looks (sa_cons (se_ix ix_item (se_var 0) (se_var 4)) sa_nil))) (sg_name 5 sc_l_is_shown.nd) (ss_end [5, 6] (ss_one (ss_if (st_val (se_call (ok_l_marks T) (hr.mono (by decide)) hgd rfl T.g_l_marks T.k_l_marks T.b_l_marks (sa_cons (se_ix ix_item (se_var 0) (se_var 3)) (sa_cons (se_ix ix_item (se_ix ix_item (se_ix ix_item (se_var 0) (se_var 4)) (se_var 5)) se_int) sa_nil)))) (ss_cons (ss_set 6 sc_l_is_shown.nd (se_call (ok_l_sight T) (hr.mono (by decide)) hgd rfl T.g_l_sight T.k_l_sight T.b_l_sight (sa_cons (se_var 0) (sa_cons (se_var 1) (sa_cons (se_var 2) (sa_cons (se_var 4) (sa_cons (se_var 5) sa_nil))))))) (ss_one (ss_if (PW.pt (st_and (st_cmp op_notN' (se_var 6) se_non) (st_and1 (st_cmp op_ge' (se_ix ix_item (se_ix ix_item (se_var 2) (se_var 6)) (se_un un_neg' se_int)) (se_ix ix_item (se_ix ix_item (se_var 2) (se_var 3)) (se_un un_neg' se_int)))))) (ss_one (ss_ret se_bl)) ss_nil))) ss_nil))))) (ss_one (ss_ret se_bl)))
theorem ok_l_is_shown (T : Txt K mg) : FnG P w K mg base 3 (He.ga K "_law_is_shown") (fdOf K (He.ga K "_law_is_shown")) ["_law_crew_here", "_law_tiers_here", "_law_clocks_here", "_law_one", "_law_other"] m_l_is_shown := (raw_l_is_shown T).pure
/-! _law_is_missed -/
theorem sc_l_is_missed : FnScope ["_law_crew_here", "_law_tiers_here", "_law_clocks_here", "_law_one", "_law_other", "_law_place", "_law_sight_here"] ["_law_crew_here", "_law_tiers_here", "_law_clocks_here", "_law_one", "_law_other"] (defScope (top 57)) := ⟨rfl, rfl, rfl, by decide +kernel, rfl, by decide +kernel, by decide +kernel⟩
theorem raw_l_is_missed (T : Txt K mg) : FnG P w K mg base 3 (He.ga K "_law_is_missed") (fdOf K (He.ga K "_law_is_missed")) ["_law_crew_here", "_law_tiers_here", "_law_clocks_here", "_law_one", "_law_other"] (bodyF 7 t_l_is_missed) :=
  fn_g T.F_l_is_missed sc_l_is_missed fun cdv A outer s H E hr hgd => (ss_cons (ss_wp [5, 6] (ss_for passB rfl (si_seq (se_call (ok_l_looks T) (hr.mono (by decide)) hgd rfl T.g_l_looks T.k_l_looks T.b_l_looks (sa_cons (se_ix ix_item (se_var 0) (se_var 3)) sa_nil))) (sg_name 5 sc_l_is_missed.nd) (ss_end [5, 6] (ss_one (ss_if (st_val (se_call (ok_l_marks T) (hr.mono (by decide)) hgd rfl T.g_l_marks T.k_l_marks T.b_l_marks (sa_cons (se_ix ix_item (se_var 0) (se_var 4)) (sa_cons (se_ix ix_item (se_ix ix_item (se_ix ix_item (se_var 0) (se_var 3)) (se_var 5)) se_int) sa_nil)))) (ss_cons (ss_set 6 sc_l_is_missed.nd (se_call (ok_l_sight T) (hr.mono (by decide)) hgd rfl T.g_l_sight T.k_l_sight T.b_l_sight (sa_cons (se_var 0) (sa_cons (se_var 1) (sa_cons (se_var 2) (sa_cons (se_var 3) (sa_cons (se_var 5) sa_nil))))))) (ss_one (ss_if (PW.pt (st_or (st_cmp op_isN' (se_var 6) se_non) (st_or1 (st_cmp op_lt' (se_ix ix_item (se_ix ix_item (se_var 2) (se_var 6)) (se_un un_neg' se_int)) (se_ix ix_item (se_ix ix_item (se_var 2) (se_var 4)) (se_un un_neg' se_int)))))) (ss_one (ss_ret se_bl)) ss_nil))) ss_nil))))) (ss_one (ss_ret se_bl)))
theorem ok_l_is_missed (T : Txt K mg) : FnG P w K mg base 3 (He.ga K "_law_is_missed") (fdOf K (He.ga K "_law_is_missed")) ["_law_crew_here", "_law_tiers_here", "_law_clocks_here", "_law_one", "_law_other"] m_l_is_missed := (raw_l_is_missed T).pure
/-! _law_arrows -/
theorem sc_l_arrows : FnScope ["_law_crew_here", "_law_tiers_here", "_law_clocks_here", "_law_found", "_law_one", "_law_other", "_law_k"] ["_law_crew_here", "_law_tiers_here", "_law_clocks_here"] (defScope (top 58)) := ⟨rfl, rfl, rfl, by decide +kernel, rfl, by decide +kernel, by decide +kernel⟩
theorem raw_l_arrows (T : Txt K mg) : FnG P w K mg base 4 (He.ga K "_law_arrows") (fdOf K (He.ga K "_law_arrows")) ["_law_crew_here", "_law_tiers_here", "_law_clocks_here"] (bodyF 7 t_l_arrows) :=
  fn_g T.F_l_arrows sc_l_arrows fun cdv A outer s H E hr hgd => (ss_cons (ss_set 3 sc_l_arrows.nd (se_new sa_nil)) (ss_cons (ss_wp [4, 5] (ss_for passB rfl (si_range1 rfl T.f_range (se_callB (cl_len) rfl T.f_len (by decide +kernel) (sa_cons (se_var 0) sa_nil))) (sg_name 4 sc_l_arrows.nd) (ss_end [4, 5] (ss_one (ss_wp [5] (ss_for passB rfl (si_seq (se_lc [("_law_k", 6)] fin_fz rfl sc_l_arrows.nd (si_range1 rfl T.f_range (se_callB (cl_len) rfl T.f_len (by decide +kernel) (sa_cons (se_var 0) sa_nil))) (blkOk_by (N := ["_law_crew_here", "_law_tiers_here", "_law_clocks_here", "_law_found", "_law_one", "_law_other", "_law_k"]) (sc := defScope (top 58)) (by decide +kernel)) (fun _ _ _ _ _ => (sg_name 6 sc_l_arrows.nd)) (fun _ _ _ _ _ => (pts_0 (st_cmp (op_ne' (hu64 hr)) (se_var 6) (se_var 4)))) (fun _ _ _ _ _ => pe_0 (se_var 6)))) (sg_name 5 sc_l_arrows.nd) (ss_end [5] (ss_cons (ss_if (st_val (se_call (ok_l_is_missed T) (hr.mono (by decide)) hgd rfl T.g_l_is_missed T.k_l_is_missed T.b_l_is_missed (sa_cons (se_var 0) (sa_cons (se_var 1) (sa_cons (se_var 2) (sa_cons (se_var 4) (sa_cons (se_var 5) sa_nil))))))) (ss_one (ss_expr (se_mt PySem.F.plainAttrs_list PySem.F.slot_list_append PySem.F.type_list_append mt_append' chk_list (se_var 3) (sa_cons (se_tup (sa_cons (se_var 4) (sa_cons (se_var 5) (sa_cons se_str sa_nil)))) sa_nil)))) ss_nil) (ss_cons (ss_if (st_val (se_call (ok_l_is_over T) (hr.mono (by decide)) hgd rfl T.g_l_is_over T.k_l_is_over T.b_l_is_over (sa_cons (se_var 0) (sa_cons (se_var 2) (sa_cons (se_var 4) (sa_cons (se_var 5) sa_nil)))))) (ss_one (ss_expr (se_mt PySem.F.plainAttrs_list PySem.F.slot_list_append PySem.F.type_list_append mt_append' chk_list (se_var 3) (sa_cons (se_tup (sa_cons (se_var 4) (sa_cons (se_var 5) (sa_cons se_str sa_nil)))) sa_nil)))) ss_nil) (ss_one (ss_if (st_val (se_call (ok_l_is_shown T) (hr.mono (by decide)) hgd rfl T.g_l_is_shown T.k_l_is_shown T.b_l_is_shown (sa_cons (se_var 0) (sa_cons (se_var 1) (sa_cons (se_var 2) (sa_cons (se_var 4) (sa_cons (se_var 5) sa_nil))))))) (ss_one (ss_expr (se_mt PySem.F.plainAttrs_list PySem.F.slot_list_append PySem.F.type_list_append mt_append' chk_list (se_var 3) (sa_cons (se_tup (sa_cons (se_var 4) (sa_cons (se_var 5) (sa_cons se_str sa_nil)))) sa_nil)))) ss_nil))))))))))) (ss_one (ss_frz 3 (ss_ret (se_var 3))))))
theorem ok_l_arrows (T : Txt K mg) : FnG P w K mg base 4 (He.ga K "_law_arrows") (fdOf K (He.ga K "_law_arrows")) ["_law_crew_here", "_law_tiers_here", "_law_clocks_here"] m_l_arrows := (raw_l_arrows T).pure
/-! _law_right -/
theorem sc_l_right : FnScope ["_law_crew_here", "_law_tiers_here", "_law_course_here", "_law_kept_so", "_law_due", "_law_told"] ["_law_crew_here", "_law_tiers_here", "_law_course_here"] (defScope (top 59)) := ⟨rfl, rfl, rfl, by decide +kernel, rfl, by decide +kernel, by decide +kernel⟩
theorem raw_l_right (T : Txt K mg) : FnG P w K mg base 10 (He.ga K "_law_right") (fdOf K (He.ga K "_law_right")) ["_law_crew_here", "_law_tiers_here", "_law_course_here"] (bodyF 6 t_l_right) :=
  fn_g T.F_l_right sc_l_right fun cdv A outer s H E hr hgd => (ss_cons (ss_par 3 4 rfl sc_l_right.nd (sa_cons (se_callB (cl_repr hgd (hu65 hr)) rfl T.f_repr (by decide +kernel) (sa_cons (se_lst (sa_cons (se_var 0) (sa_cons (se_var 1) (sa_cons (se_var 2) sa_nil)))) sa_nil)) (sa_cons (se_callTy cl_tuple rfl T.f_tuple (by decide +kernel) (sa_cons (se_call (ok_l_arrows T) (hr.mono (by decide)) hgd rfl T.g_l_arrows T.k_l_arrows T.b_l_arrows (sa_cons (se_var 0) (sa_cons (se_var 1) (sa_cons (se_call (ok_l_clocks T) (hr.mono (by decide)) hgd rfl T.g_l_clocks T.k_l_clocks T.b_l_clocks (sa_cons (se_var 0) (sa_cons (se_var 2) sa_nil))) sa_nil)))) sa_nil)) sa_nil))) (ss_cons (ss_set 5 sc_l_right.nd (se_lst (sa_cons (se_call (ok_arrows T) (hr.mono (by decide)) hgd rfl T.g_arrows T.k_arrows T.b_arrows (sa_cons (se_var 0) (sa_cons (se_var 1) (sa_cons (se_var 2) sa_nil)))) (sa_cons (se_call (ok_arrows T) (hr.mono (by decide)) hgd rfl T.g_arrows T.k_arrows T.b_arrows (sa_cons (se_var 0) (sa_cons (se_var 1) (sa_cons (se_var 2) sa_nil)))) sa_nil)))) (ss_one (ss_ret (se_and (se_cmp (op_eqS (hu64 hr)) (se_callB (cl_repr hgd (hu65 hr)) rfl T.f_repr (by decide +kernel) (sa_cons (se_var 5) sa_nil)) (se_callB (cl_repr hgd (hu65 hr)) rfl T.f_repr (by decide +kernel) (sa_cons (se_lst (sa_cons (se_var 4) (sa_cons (se_var 4) sa_nil))) sa_nil))) (se_one (se_cmp (op_eqS (hu64 hr)) (se_callB (cl_repr hgd (hu65 hr)) rfl T.f_repr (by decide +kernel) (sa_cons (se_lst (sa_cons (se_var 0) (sa_cons (se_var 1) (sa_cons (se_var 2) sa_nil)))) sa_nil)) (se_var 3))))))))
theorem ok_l_right (T : Txt K mg) : FnG P w K mg base 10 (He.ga K "_law_right") (fdOf K (He.ga K "_law_right")) ["_law_crew_here", "_law_tiers_here", "_law_course_here"] m_l_right := (raw_l_right T).pure
/-! _law_more -/
theorem sc_l_more : FnScope ["_law_marks_here", "_law_apart"] [] (defScope (top 61)) := ⟨rfl, rfl, rfl, by decide +kernel, rfl, by decide +kernel, by decide +kernel⟩
theorem raw_l_more (T : Txt K mg) : FnG P w K mg base 10 (He.ga K "_law_more") (fdOf K (He.ga K "_law_more")) [] (bodyF 2 t_l_more) :=
  fn_g T.F_l_more sc_l_more fun cdv A outer s H E hr hgd => (ss_cons (ss_set 0 sc_l_more.nd (se_tup (sa_cons (se_tup (sa_cons (se_tup (sa_cons se_str (sa_cons se_str sa_nil))) (sa_cons (se_tup (sa_cons se_str (sa_cons se_str sa_nil))) sa_nil))) (sa_cons (se_tup (sa_cons (se_tup (sa_cons se_str (sa_cons se_str sa_nil))) sa_nil)) sa_nil)))) (ss_cons (ss_if (st_cmp (op_ne' (hu64 hr)) (se_call (ok_arrows T) (hr.mono (by decide)) hgd rfl T.g_arrows T.k_arrows T.b_arrows (sa_cons (se_var 0) (sa_cons (se_tup (sa_cons se_str (sa_cons se_str sa_nil))) (sa_cons (se_tup (sa_cons se_int (sa_cons se_int (sa_cons se_int (sa_cons se_int (sa_cons se_int sa_nil)))))) sa_nil)))) (se_tup (sa_cons (se_tup (sa_cons se_int (sa_cons se_int (sa_cons se_str sa_nil)))) sa_nil))) (ss_one (ss_ret se_bl)) ss_nil) (ss_cons (ss_set 1 sc_l_more.nd (se_tup (sa_cons (se_tup (sa_cons (se_tup (sa_cons se_str (sa_cons se_str sa_nil))) (sa_cons (se_tup (sa_cons se_str (sa_cons se_str sa_nil))) sa_nil))) (sa_cons (se_tup (sa_cons (se_tup (sa_cons se_str (sa_cons se_str sa_nil))) sa_nil)) (sa_cons (se_tup (sa_cons (se_tup (sa_cons se_str (sa_cons se_str sa_nil))) sa_nil)) sa_nil))))) (ss_cons (ss_if (st_cmp (op_ne' (hu64 hr)) (se_call (ok_arrows T) (hr.mono (by decide)) hgd rfl T.g_arrows T.k_arrows T.b_arrows (sa_cons (se_var 1) (sa_cons (se_bin op_mulT (se_tup (sa_cons se_str sa_nil)) se_int) (sa_cons (se_tup (sa_cons se_int (sa_cons se_int (sa_cons se_int (sa_cons se_int (sa_cons se_int (sa_cons se_int (sa_cons se_int sa_nil)))))))) sa_nil)))) (se_tup (sa_cons (se_tup (sa_cons se_int (sa_cons se_int (sa_cons se_str sa_nil)))) sa_nil))) (ss_one (ss_ret se_bl)) ss_nil) (ss_one (ss_ret (se_cmp (op_eq' (hu64 hr)) (se_call (ok_arrows T) (hr.mono (by decide)) hgd rfl T.g_arrows T.k_arrows T.b_arrows (sa_cons (se_tup (sa_cons (se_tup (sa_cons (se_tup (sa_cons se_str (sa_cons se_str sa_nil))) (sa_cons (se_tup (sa_cons se_str (sa_cons se_str sa_nil))) sa_nil))) sa_nil)) (sa_cons (se_tup (sa_cons se_str sa_nil)) (sa_cons (se_tup (sa_cons se_int (sa_cons se_int (sa_cons se_int sa_nil)))) sa_nil)))) (se_tup sa_nil))))))))
theorem ok_l_more (T : Txt K mg) : FnG P w K mg base 10 (He.ga K "_law_more") (fdOf K (He.ga K "_law_more")) [] m_l_more := (raw_l_more T).pure
/-! _law_hand -/
theorem sc_l_hand : FnScope ["_law_lost", "_law_rows", "_law_both", "_law_three", "_law_due"] [] (defScope (top 60)) := ⟨rfl, rfl, rfl, by decide +kernel, rfl, by decide +kernel, by decide +kernel⟩
theorem raw_l_hand (T : Txt K mg) : FnG P w K mg base 11 (He.ga K "_law_hand") (fdOf K (He.ga K "_law_hand")) [] (bodyF 5 t_l_hand) :=
  fn_g T.F_l_hand sc_l_hand fun cdv A outer s H E hr hgd => (ss_cons (ss_set 0 sc_l_hand.nd (se_bin op_mulT (se_tup (sa_cons (se_tup (sa_cons (se_tup (sa_cons se_str (sa_cons se_str sa_nil))) (sa_cons (se_tup (sa_cons se_str (sa_cons se_str sa_nil))) sa_nil))) sa_nil)) se_int)) (ss_cons (ss_set 1 sc_l_hand.nd (se_lst (sa_cons (se_call (ok_arrows T) (hr.mono (by decide)) hgd rfl T.g_arrows T.k_arrows T.b_arrows (sa_cons (se_var 0) (sa_cons (se_tup (sa_cons se_str (sa_cons se_str sa_nil))) (sa_cons (se_tup (sa_cons se_int (sa_cons se_int (sa_cons se_int (sa_cons se_int (sa_cons se_int (sa_cons se_int sa_nil))))))) sa_nil)))) (sa_cons (se_call (ok_arrows T) (hr.mono (by decide)) hgd rfl T.g_arrows T.k_arrows T.b_arrows (sa_cons (se_var 0) (sa_cons (se_tup (sa_cons se_str (sa_cons se_str sa_nil))) (sa_cons (se_tup (sa_cons se_int (sa_cons se_int (sa_cons se_int (sa_cons se_int (sa_cons se_int (sa_cons se_int sa_nil))))))) sa_nil)))) sa_nil)))) (ss_cons (ss_set 2 sc_l_hand.nd (se_tup (sa_cons (se_tup (sa_cons se_int (sa_cons se_int (sa_cons se_str sa_nil)))) (sa_cons (se_tup (sa_cons se_int (sa_cons se_int (sa_cons se_str sa_nil)))) (sa_cons (se_tup (sa_cons se_int (sa_cons se_int (sa_cons se_str sa_nil)))) sa_nil))))) (ss_cons (ss_if (st_cmp (op_ne' (hu64 hr)) (se_var 1) (se_lst (sa_cons (se_tup (sa_cons (se_tup (sa_cons se_int (sa_cons se_int (sa_cons se_str sa_nil)))) (sa_cons (se_tup (sa_cons se_int (sa_cons se_int (sa_cons se_str sa_nil)))) (sa_cons (se_tup (sa_cons se_int (sa_cons se_int (sa_cons se_str sa_nil)))) sa_nil)))) (sa_cons (se_var 2) sa_nil)))) (ss_one (ss_ret se_bl)) ss_nil) (ss_cons (ss_set 3 sc_l_hand.nd (se_tup (sa_cons (se_tup (sa_cons (se_tup (sa_cons se_str (sa_cons se_str sa_nil))) sa_nil)) (sa_cons (se_tup (sa_cons (se_tup (sa_cons se_str (sa_cons se_str sa_nil))) sa_nil)) (sa_cons (se_tup (sa_cons (se_tup (sa_cons se_str (sa_cons se_str sa_nil))) sa_nil)) sa_nil))))) (ss_cons (ss_set 4 sc_l_hand.nd (se_tup (sa_cons (se_tup (sa_cons se_int (sa_cons se_int (sa_cons se_str sa_nil)))) (sa_cons (se_tup (sa_cons se_int (sa_cons se_int (sa_cons se_str sa_nil)))) (sa_cons (se_tup (sa_cons se_int (sa_cons se_int (sa_cons se_str sa_nil)))) sa_nil))))) (ss_cons (ss_if (st_cmp (op_ne' (hu64 hr)) (se_call (ok_arrows T) (hr.mono (by decide)) hgd rfl T.g_arrows T.k_arrows T.b_arrows (sa_cons (se_var 3) (sa_cons (se_bin op_mulT (se_tup (sa_cons se_str sa_nil)) se_int) (sa_cons (se_tup (sa_cons se_int (sa_cons se_int (sa_cons se_int (sa_cons se_int (sa_cons se_int (sa_cons se_int sa_nil))))))) sa_nil)))) (se_var 4)) (ss_one (ss_ret se_bl)) ss_nil) (ss_cons (ss_set 4 sc_l_hand.nd (se_tup (sa_cons (se_tup (sa_cons se_int (sa_cons se_int (sa_cons se_str sa_nil)))) (sa_cons (se_tup (sa_cons se_int (sa_cons se_int (sa_cons se_str sa_nil)))) (sa_cons (se_tup (sa_cons se_int (sa_cons se_int (sa_cons se_str sa_nil)))) sa_nil))))) (ss_cons (ss_if (st_cmp (op_ne' (hu64 hr)) (se_call (ok_arrows T) (hr.mono (by decide)) hgd rfl T.g_arrows T.k_arrows T.b_arrows (sa_cons (se_var 3) (sa_cons (se_bin op_mulT (se_tup (sa_cons se_str sa_nil)) se_int) (sa_cons (se_tup (sa_cons se_int (sa_cons se_int (sa_cons se_int (sa_cons se_int (sa_cons se_int (sa_cons se_int sa_nil))))))) sa_nil)))) (se_var 4)) (ss_one (ss_ret se_bl)) ss_nil) (ss_cons (ss_set 4 sc_l_hand.nd (se_tup (sa_cons (se_tup (sa_cons se_int (sa_cons se_int (sa_cons se_str sa_nil)))) (sa_cons (se_tup (sa_cons se_int (sa_cons se_int (sa_cons se_str sa_nil)))) (sa_cons (se_tup (sa_cons se_int (sa_cons se_int (sa_cons se_str sa_nil)))) sa_nil))))) (ss_one (ss_ret (se_and (se_cmp (op_eq' (hu64 hr)) (se_call (ok_arrows T) (hr.mono (by decide)) hgd rfl T.g_arrows T.k_arrows T.b_arrows (sa_cons (se_var 3) (sa_cons (se_tup (sa_cons se_str (sa_cons se_str (sa_cons se_str sa_nil)))) (sa_cons (se_tup (sa_cons se_int (sa_cons se_int (sa_cons se_int (sa_cons se_int (sa_cons se_int (sa_cons se_int sa_nil))))))) sa_nil)))) (se_var 4)) (se_one (se_call0 (ok_l_more T) (hr.mono (by decide)) hgd rfl T.g_l_more T.k_l_more T.b_l_more)))))))))))))))
theorem ok_l_hand (T : Txt K mg) : FnG P w K mg base 11 (He.ga K "_law_hand") (fdOf K (He.ga K "_law_hand")) [] m_l_hand := (raw_l_hand T).pure
/-! law -/
theorem sc_law : FnScope ["_law_script", "_law_k", "_law_m", "_law_crew_here", "_law_again", "_law_course_here", "_law_few", "_law_tiers_here"] ["_law_script"] (defScope (top 62)) := ⟨rfl, rfl, rfl, by decide +kernel, rfl, by decide +kernel, by decide +kernel⟩
theorem raw_law (T : Txt K mg) : FnG P w K mg base 12 (He.ga K "law") (fdOf K (He.ga K "law")) ["_law_script"] (bodyF 8 t_law) :=
  fn_g T.F_law sc_law fun cdv A outer s H E hr hgd => (ss_cons (ss_wp [1, 2, 3, 4, 5, 6, 7] (ss_for passB rfl (si_range1 rfl T.f_range (se_bin op_add' se_int (se_callB (cl_min2 rfl) rfl T.f_min (by decide +kernel) (sa_cons (se_callB (cl_len) rfl T.f_len (by decide +kernel) (sa_cons (se_var 0) sa_nil)) (sa_cons se_int sa_nil))))) (sg_name 1 sc_law.nd) (ss_end [1, 2, 3, 4, 5, 6, 7] (ss_cons (ss_set 2 sc_law.nd (se_call (ok_l_begun T) (hr.mono (by decide)) hgd rfl T.g_l_begun T.k_l_begun T.b_l_begun (sa_cons (se_var 0) (sa_cons (se_var 1) sa_nil)))) (ss_cons (ss_set 3 sc_law.nd (se_call (ok_l_crew T) (hr.mono (by decide)) hgd rfl T.g_l_crew T.k_l_crew T.b_l_crew (sa_cons (se_var 2) (sa_cons se_int (sa_cons se_int sa_nil))))) (ss_cons (ss_wp [4, 5] (ss_for passB rfl (si_range1 rfl T.f_range se_int) (sg_name 4 sc_law.nd) (ss_end [4, 5] (ss_cons (ss_set 5 sc_law.nd (se_call (ok_l_course T) (hr.mono (by decide)) hgd rfl T.g_l_course T.k_l_course T.b_l_course (sa_cons (se_var 2) (sa_cons (se_var 3) sa_nil)))) (ss_one (ss_if (PW.pt (st_or (st_not (st_val (se_call (ok_l_right T) (hr.mono (by decide)) hgd rfl T.g_l_right T.k_l_right T.b_l_right (sa_cons (se_var 3) (sa_cons (se_call (ok_l_tiers T) (hr.mono (by decide)) hgd rfl T.g_l_tiers T.k_l_tiers T.b_l_tiers (sa_cons (se_var 2) (sa_cons (se_var 3) sa_nil))) (sa_cons (se_var 5) sa_nil)))))) (st_or1 (st_not (st_val (se_call (ok_l_right T) (hr.mono (by decide)) hgd rfl T.g_l_right T.k_l_right T.b_l_right (sa_cons (se_var 3) (sa_cons (se_call (ok_l_tiers T) (hr.mono (by decide)) hgd rfl T.g_l_tiers T.k_l_tiers T.b_l_tiers (sa_cons (se_var 2) (sa_cons (se_var 3) sa_nil))) (sa_cons (se_var 5) sa_nil))))))))) (ss_one (ss_ret se_bl)) ss_nil)))))) (ss_cons (ss_set 6 sc_law.nd (se_call (ok_l_crew T) (hr.mono (by decide)) hgd rfl T.g_l_crew T.k_l_crew T.b_l_crew (sa_cons (se_var 2) (sa_cons se_int (sa_cons se_int sa_nil))))) (ss_cons (ss_set 7 sc_law.nd (se_call (ok_l_tiers T) (hr.mono (by decide)) hgd rfl T.g_l_tiers T.k_l_tiers T.b_l_tiers (sa_cons (se_var 2) (sa_cons (se_var 6) sa_nil)))) (ss_one (ss_wp [5] (ss_for passB rfl (si_seq (se_call (ok_l_all_courses T) (hr.mono (by decide)) hgd rfl T.g_l_all_courses T.k_l_all_courses T.b_l_all_courses (sa_cons (se_var 6) sa_nil))) (sg_name 5 sc_law.nd) (ss_end [5] (ss_one (ss_if (st_not (st_val (se_call (ok_l_right T) (hr.mono (by decide)) hgd rfl T.g_l_right T.k_l_right T.b_l_right (sa_cons (se_var 6) (sa_cons (se_var 7) (sa_cons (se_var 5) sa_nil)))))) (ss_one (ss_ret se_bl)) ss_nil)))))))))))))) (ss_one (ss_ret (se_call0 (ok_l_hand T) (hr.mono (by decide)) hgd rfl T.g_l_hand T.k_l_hand T.b_l_hand))))
theorem ok_law (T : Txt K mg) : FnG P w K mg base 12 (He.ga K "law") (fdOf K (He.ga K "law")) ["_law_script"] m_law := raw_law T
end K06

end

section
set_option maxHeartbeats 0
/-! The head: what stands behind the top. -/
namespace K06
open PySem PySem.Spec PyProof.Rows L2 MX MS
def dd0 : He.DefD := ⟨("is_whole", none), "is_whole", "is_whole", defArgs (top 16), defBody (top 16), defScope (top 16), [], []⟩
def dd1 : He.DefD := ⟨("is_thing", none), "is_thing", "is_thing", defArgs (top 17), defBody (top 17), defScope (top 17), [], []⟩
def dd2 : He.DefD := ⟨("is_step", none), "is_step", "is_step", defArgs (top 18), defBody (top 18), defScope (top 18), [], []⟩
def dd3 : He.DefD := ⟨("can_follow", none), "can_follow", "can_follow", defArgs (top 19), defBody (top 19), defScope (top 19), [], []⟩
def dd4 : He.DefD := ⟨("wrong_step", none), "wrong_step", "wrong_step", defArgs (top 20), defBody (top 20), defScope (top 20), [], []⟩
def dd5 : He.DefD := ⟨("wrong_place", none), "wrong_place", "wrong_place", defArgs (top 21), defBody (top 21), defScope (top 21), [], []⟩
def dd6 : He.DefD := ⟨("need_lot", none), "need_lot", "need_lot", defArgs (top 22), defBody (top 22), defScope (top 22), [], []⟩
def dd7 : He.DefD := ⟨("are_levels", none), "are_levels", "are_levels", defArgs (top 23), defBody (top 23), defScope (top 23), [], []⟩
def dd8 : He.DefD := ⟨("need_levels", none), "need_levels", "need_levels", defArgs (top 24), defBody (top 24), defScope (top 24), [], []⟩
def dd9 : He.DefD := ⟨("things_in", none), "things_in", "things_in", defArgs (top 25), defBody (top 25), defScope (top 25), [], []⟩
def dd10 : He.DefD := ⟨("wrong_spot", none), "wrong_spot", "wrong_spot", defArgs (top 27), defBody (top 27), defScope (top 27), [], []⟩
def dd11 : He.DefD := ⟨("need_run", none), "need_run", "need_run", defArgs (top 28), defBody (top 28), defScope (top 28), [], []⟩
def dd12 : He.DefD := ⟨("times_of", none), "times_of", "times_of", defArgs (top 29), defBody (top 29), defScope (top 29), [], []⟩
def dd13 : He.DefD := ⟨("need_all", none), "need_all", "need_all", defArgs (top 34), defBody (top 34), defScope (top 34), [], []⟩
def dd14 : He.DefD := ⟨("markers", none), "markers", "markers", defArgs (top 35), defBody (top 35), defScope (top 35), [], []⟩
def dd15 : He.DefD := ⟨("sight_of", none), "sight_of", "sight_of", defArgs (top 36), defBody (top 36), defScope (top 36), [], []⟩
def dd16 : He.DefD := ⟨("seen_in", none), "seen_in", "seen_in", defArgs (top 37), defBody (top 37), defScope (top 37), [], []⟩
def dd17 : He.DefD := ⟨("look_arrows", none), "look_arrows", "look_arrows", defArgs (top 38), defBody (top 38), defScope (top 38), [], []⟩
def dd18 : He.DefD := ⟨("over_arrows", none), "over_arrows", "over_arrows", defArgs (top 39), defBody (top 39), defScope (top 39), [], []⟩
def dd19 : He.DefD := ⟨("arrows_in", none), "arrows_in", "arrows_in", defArgs (top 40), defBody (top 40), defScope (top 40), [], []⟩
def dd20 : He.DefD := ⟨("arrows", none), "arrows", "arrows", defArgs (top 41), defBody (top 41), defScope (top 41), [], []⟩
def dd21 : He.DefD := ⟨("_law_begun", none), "_law_begun", "_law_begun", defArgs (top 43), defBody (top 43), defScope (top 43), [], []⟩
def dd22 : He.DefD := ⟨("_law_draw", none), "_law_draw", "_law_draw", defArgs (top 44), defBody (top 44), defScope (top 44), [], []⟩
def dd23 : He.DefD := ⟨("_law_of", none), "_law_of", "_law_of", defArgs (top 45), defBody (top 45), defScope (top 45), [], []⟩
def dd24 : He.DefD := ⟨("_law_deed", none), "_law_deed", "_law_deed", defArgs (top 46), defBody (top 46), defScope (top 46), [], []⟩
def dd25 : He.DefD := ⟨("_law_crew", none), "_law_crew", "_law_crew", defArgs (top 47), defBody (top 47), defScope (top 47), [], []⟩
def dd26 : He.DefD := ⟨("_law_tiers", none), "_law_tiers", "_law_tiers", defArgs (top 48), defBody (top 48), defScope (top 48), [], []⟩
def dd27 : He.DefD := ⟨("_law_course", none), "_law_course", "_law_course", defArgs (top 49), defBody (top 49), defScope (top 49), [], []⟩
def dd28 : He.DefD := ⟨("_law_all_courses", none), "_law_all_courses", "_law_all_courses", defArgs (top 50), defBody (top 50), defScope (top 50), [], []⟩
def dd29 : He.DefD := ⟨("_law_clocks", none), "_law_clocks", "_law_clocks", defArgs (top 51), defBody (top 51), defScope (top 51), [], []⟩
def dd30 : He.DefD := ⟨("_law_marks", none), "_law_marks", "_law_marks", defArgs (top 52), defBody (top 52), defScope (top 52), [], []⟩
def dd31 : He.DefD := ⟨("_law_sight", none), "_law_sight", "_law_sight", defArgs (top 53), defBody (top 53), defScope (top 53), [], []⟩
def dd32 : He.DefD := ⟨("_law_looks", none), "_law_looks", "_law_looks", defArgs (top 54), defBody (top 54), defScope (top 54), [], []⟩
def dd33 : He.DefD := ⟨("_law_is_over", none), "_law_is_over", "_law_is_over", defArgs (top 55), defBody (top 55), defScope (top 55), [], []⟩
def dd34 : He.DefD := ⟨("_law_is_shown", none), "_law_is_shown", "_law_is_shown", defArgs (top 56), defBody (top 56), defScope (top 56), [], []⟩
def dd35 : He.DefD := ⟨("_law_is_missed", none), "_law_is_missed", "_law_is_missed", defArgs (top 57), defBody (top 57), defScope (top 57), [], []⟩
def dd36 : He.DefD := ⟨("_law_arrows", none), "_law_arrows", "_law_arrows", defArgs (top 58), defBody (top 58), defScope (top 58), [], []⟩
def dd37 : He.DefD := ⟨("_law_right", none), "_law_right", "_law_right", defArgs (top 59), defBody (top 59), defScope (top 59), [], []⟩
def dd38 : He.DefD := ⟨("_law_more", none), "_law_more", "_law_more", defArgs (top 61), defBody (top 61), defScope (top 61), [], []⟩
def dd39 : He.DefD := ⟨("_law_hand", none), "_law_hand", "_law_hand", defArgs (top 60), defBody (top 60), defScope (top 60), [], []⟩
def dd40 : He.DefD := ⟨("law", none), "law", "law", defArgs (top 62), defBody (top 62), defScope (top 62), [], []⟩
def fn : List He.DefD := ([dd0, dd1, dd2, dd3, dd4, dd5, dd6, dd7, dd8, dd9, dd10, dd11, dd12, dd13, dd14, dd15, dd16, dd17, dd18, dd19, dd20, dd21, dd22, dd23, dd24, dd25, dd26, dd27, dd28, dd29] : List He.DefD) ++ ([dd30, dd31, dd32, dd33, dd34, dd35, dd36, dd37, dd38, dd39, dd40] : List He.DefD)
def fa : List He.Fa := ([.free "all", .free "bool", .free "enumerate", .free "int", .free "isinstance", .free "len", .free "list", .free "max", .free "min", .free "range", .free "repr", .free "sorted", .free "str", .free "sum", .free "tuple", .str "LATE" "late", .str "LETTERS" "abcdefghijklmnopqrstuvwxyz", .glo "LEVELS", .str "LOOK" "look", .str "MARK" "mark", .str "MISSED" "missed", .int "MOST_DEEDS" 5, .int "MOST_LETTERS" 3, .int "MOST_STEPS" 5, .str "OVER" "over", .str "SHOWN" "shown", .glo "is_whole", .glo "is_thing", .glo "is_step", .glo "can_follow"] : List He.Fa) ++ ([.glo "wrong_step", .glo "wrong_place", .glo "need_lot", .glo "are_levels", .glo "need_levels", .glo "things_in", .glo "wrong_spot", .glo "need_run", .glo "times_of", .glo "need_all", .glo "markers", .glo "sight_of", .glo "seen_in", .glo "look_arrows", .glo "over_arrows", .glo "arrows_in", .glo "arrows", .glo "_law_begun", .glo "_law_draw", .glo "_law_of", .glo "_law_deed", .glo "_law_crew", .glo "_law_tiers", .glo "_law_course", .glo "_law_all_courses", .glo "_law_clocks", .glo "_law_marks", .glo "_law_sight", .glo "_law_looks", .glo "_law_is_over"] : List He.Fa) ++ ([.glo "_law_is_shown", .glo "_law_is_missed", .glo "_law_arrows", .glo "_law_right", .glo "_law_more", .glo "_law_hand", .glo "law"] : List He.Fa)
def bx (K : PySem.W.Frag) : Bool := (He.tupB K "LEVELS" [.str "late", .str "early", .str "guarded"] && true)
def loose : List Str := (["LevelError", "BadLot", "BadLevels", "BadRun", "LETTERS", "MOST_LETTERS", "MOST_DEEDS", "MOST_STEPS", "LOOK", "MARK", "LATE", "EARLY", "GUARDED", "LEVELS", "is_whole", "is_thing", "is_step", "can_follow", "wrong_step", "wrong_place", "need_lot", "are_levels", "need_levels", "things_in", "wrong_spot", "need_run", "times_of", "OVER", "SHOWN", "MISSED"] : List Str) ++ (["need_all", "markers", "sight_of", "seen_in", "look_arrows", "over_arrows", "arrows_in", "arrows", "_law_begun", "_law_draw", "_law_of", "_law_deed", "_law_crew", "_law_tiers", "_law_course", "_law_all_courses", "_law_clocks", "_law_marks", "_law_sight", "_law_looks", "_law_is_over", "_law_is_shown", "_law_is_missed", "_law_arrows", "_law_right", "_law_hand", "_law_more"] : List Str)
abbrev R : PySem.W.OpenRow := PySem.W.OpenLaw.row PySem.Challenge.rw_mixedlevels_k06_whole_arrows
abbrev hk : PySem.W.Hook := He.hookM 4 fa fn bx
def ob (s : PySem.W.SharedT) : He.AlM := He.obsMG 4 fa fn bx (HandSHeadRun.getT s)
theorem ob_eq (s : PySem.W.SharedT) : ob s = hk.obs s.abs := He.obsMG_eq (HandSHeadRun.getT_eq s)
theorem run (w : World) : HandSHeadRun.RunEq R (PySem.W.view R.prog [62]) hk ob 4000 loose w := by
  intro os
  kernel_rfl
theorem txt {K : PySem.W.Frag} {h : Heap} {mg : Str → Option Value} (X : K.In h) (G : h.Ns mainGlobals mg) (c : He.SaysM fa fn bx K) : Txt K mg := by
  have F0 := (c.d.def_ 0 (d := dd0) rfl).elim fun fd F => MX.FunD.toOf F
  have F1 := (c.d.def_ 1 (d := dd1) rfl).elim fun fd F => MX.FunD.toOf F
  have F2 := (c.d.def_ 2 (d := dd2) rfl).elim fun fd F => MX.FunD.toOf F
  have F3 := (c.d.def_ 3 (d := dd3) rfl).elim fun fd F => MX.FunD.toOf F
  have F4 := (c.d.def_ 4 (d := dd4) rfl).elim fun fd F => MX.FunD.toOf F
  have F5 := (c.d.def_ 5 (d := dd5) rfl).elim fun fd F => MX.FunD.toOf F
  have F6 := (c.d.def_ 6 (d := dd6) rfl).elim fun fd F => MX.FunD.toOf F
  have F7 := (c.d.def_ 7 (d := dd7) rfl).elim fun fd F => MX.FunD.toOf F
  have F8 := (c.d.def_ 8 (d := dd8) rfl).elim fun fd F => MX.FunD.toOf F
  have F9 := (c.d.def_ 9 (d := dd9) rfl).elim fun fd F => MX.FunD.toOf F
  have F10 := (c.d.def_ 10 (d := dd10) rfl).elim fun fd F => MX.FunD.toOf F
  have F11 := (c.d.def_ 11 (d := dd11) rfl).elim fun fd F => MX.FunD.toOf F
  have F12 := (c.d.def_ 12 (d := dd12) rfl).elim fun fd F => MX.FunD.toOf F
  have F13 := (c.d.def_ 13 (d := dd13) rfl).elim fun fd F => MX.FunD.toOf F
  have F14 := (c.d.def_ 14 (d := dd14) rfl).elim fun fd F => MX.FunD.toOf F
  have F15 := (c.d.def_ 15 (d := dd15) rfl).elim fun fd F => MX.FunD.toOf F
  have F16 := (c.d.def_ 16 (d := dd16) rfl).elim fun fd F => MX.FunD.toOf F
  have F17 := (c.d.def_ 17 (d := dd17) rfl).elim fun fd F => MX.FunD.toOf F
  have F18 := (c.d.def_ 18 (d := dd18) rfl).elim fun fd F => MX.FunD.toOf F
  have F19 := (c.d.def_ 19 (d := dd19) rfl).elim fun fd F => MX.FunD.toOf F
  have F20 := (c.d.def_ 20 (d := dd20) rfl).elim fun fd F => MX.FunD.toOf F
  have F21 := (c.d.def_ 21 (d := dd21) rfl).elim fun fd F => MX.FunD.toOf F
  have F22 := (c.d.def_ 22 (d := dd22) rfl).elim fun fd F => MX.FunD.toOf F
  have F23 := (c.d.def_ 23 (d := dd23) rfl).elim fun fd F => MX.FunD.toOf F
  have F24 := (c.d.def_ 24 (d := dd24) rfl).elim fun fd F => MX.FunD.toOf F
  have F25 := (c.d.def_ 25 (d := dd25) rfl).elim fun fd F => MX.FunD.toOf F
  have F26 := (c.d.def_ 26 (d := dd26) rfl).elim fun fd F => MX.FunD.toOf F
  have F27 := (c.d.def_ 27 (d := dd27) rfl).elim fun fd F => MX.FunD.toOf F
  have F28 := (c.d.def_ 28 (d := dd28) rfl).elim fun fd F => MX.FunD.toOf F
  have F29 := (c.d.def_ 29 (d := dd29) rfl).elim fun fd F => MX.FunD.toOf F
  have F30 := (c.d.def_ 30 (d := dd30) rfl).elim fun fd F => MX.FunD.toOf F
  have F31 := (c.d.def_ 31 (d := dd31) rfl).elim fun fd F => MX.FunD.toOf F
  have F32 := (c.d.def_ 32 (d := dd32) rfl).elim fun fd F => MX.FunD.toOf F
  have F33 := (c.d.def_ 33 (d := dd33) rfl).elim fun fd F => MX.FunD.toOf F
  have F34 := (c.d.def_ 34 (d := dd34) rfl).elim fun fd F => MX.FunD.toOf F
  have F35 := (c.d.def_ 35 (d := dd35) rfl).elim fun fd F => MX.FunD.toOf F
  have F36 := (c.d.def_ 36 (d := dd36) rfl).elim fun fd F => MX.FunD.toOf F
  have F37 := (c.d.def_ 37 (d := dd37) rfl).elim fun fd F => MX.FunD.toOf F
  have F38 := (c.d.def_ 38 (d := dd38) rfl).elim fun fd F => MX.FunD.toOf F
  have F39 := (c.d.def_ 39 (d := dd39) rfl).elim fun fd F => MX.FunD.toOf F
  have F40 := (c.d.def_ 40 (d := dd40) rfl).elim fun fd F => MX.FunD.toOf F
  have cb := c.b
  simp only [bx, Bool.and_eq_true] at cb
  exact {
    f_all := He.free_ok X G (c.d.fact 0 rfl)
    f_bool := He.free_ok X G (c.d.fact 1 rfl)
    f_enumerate := He.free_ok X G (c.d.fact 2 rfl)
    f_int := He.free_ok X G (c.d.fact 3 rfl)
    f_isinstance := He.free_ok X G (c.d.fact 4 rfl)
    f_len := He.free_ok X G (c.d.fact 5 rfl)
    f_list := He.free_ok X G (c.d.fact 6 rfl)
    f_max := He.free_ok X G (c.d.fact 7 rfl)
    f_min := He.free_ok X G (c.d.fact 8 rfl)
    f_range := He.free_ok X G (c.d.fact 9 rfl)
    f_repr := He.free_ok X G (c.d.fact 10 rfl)
    f_sorted := He.free_ok X G (c.d.fact 11 rfl)
    f_str := He.free_ok X G (c.d.fact 12 rfl)
    f_sum := He.free_ok X G (c.d.fact 13 rfl)
    f_tuple := He.free_ok X G (c.d.fact 14 rfl)
    c_LATE := He.str_ok X G (c.d.fact 15 rfl)
    c_LETTERS := He.str_ok X G (c.d.fact 16 rfl)
    c_LEVELS := ⟨_, He.glo_ok X G (c.d.fact 17 rfl), fun H => He.tupB_ok cb.1 H⟩
    c_LOOK := He.str_ok X G (c.d.fact 18 rfl)
    c_MARK := He.str_ok X G (c.d.fact 19 rfl)
    c_MISSED := He.str_ok X G (c.d.fact 20 rfl)
    c_MOST_DEEDS := He.int_ok X G (c.d.fact 21 rfl)
    c_MOST_LETTERS := He.int_ok X G (c.d.fact 22 rfl)
    c_MOST_STEPS := He.int_ok X G (c.d.fact 23 rfl)
    c_OVER := He.str_ok X G (c.d.fact 24 rfl)
    c_SHOWN := He.str_ok X G (c.d.fact 25 rfl)
    g_is_whole := He.glo_ok X G (c.d.fact 26 rfl)
    F_is_whole := F0
    b_is_whole := FunD.bindsN F0 fun _ _ _ _ _ _ us hl => match us, hl with | [_, _, _], _ => rfl
    g_is_thing := He.glo_ok X G (c.d.fact 27 rfl)
    F_is_thing := F1
    b_is_thing := FunD.bindsN F1 fun _ _ _ _ _ _ us hl => match us, hl with | [_], _ => rfl
    g_is_step := He.glo_ok X G (c.d.fact 28 rfl)
    F_is_step := F2
    b_is_step := FunD.bindsN F2 fun _ _ _ _ _ _ us hl => match us, hl with | [_], _ => rfl
    g_can_follow := He.glo_ok X G (c.d.fact 29 rfl)
    F_can_follow := F3
    b_can_follow := FunD.bindsN F3 fun _ _ _ _ _ _ us hl => match us, hl with | [_, _], _ => rfl
    g_wrong_step := He.glo_ok X G (c.d.fact 30 rfl)
    F_wrong_step := F4
    b_wrong_step := FunD.bindsN F4 fun _ _ _ _ _ _ us hl => match us, hl with | [_], _ => rfl
    g_wrong_place := He.glo_ok X G (c.d.fact 31 rfl)
    F_wrong_place := F5
    b_wrong_place := FunD.bindsN F5 fun _ _ _ _ _ _ us hl => match us, hl with | [_], _ => rfl
    g_need_lot := He.glo_ok X G (c.d.fact 32 rfl)
    F_need_lot := F6
    b_need_lot := FunD.bindsN F6 fun _ _ _ _ _ _ us hl => match us, hl with | [_], _ => rfl
    g_are_levels := He.glo_ok X G (c.d.fact 33 rfl)
    F_are_levels := F7
    b_are_levels := FunD.bindsN F7 fun _ _ _ _ _ _ us hl => match us, hl with | [_, _], _ => rfl
    g_need_levels := He.glo_ok X G (c.d.fact 34 rfl)
    F_need_levels := F8
    b_need_levels := FunD.bindsN F8 fun _ _ _ _ _ _ us hl => match us, hl with | [_, _], _ => rfl
    g_things_in := He.glo_ok X G (c.d.fact 35 rfl)
    F_things_in := F9
    b_things_in := FunD.bindsN F9 fun _ _ _ _ _ _ us hl => match us, hl with | [_, _], _ => rfl
    g_wrong_spot := He.glo_ok X G (c.d.fact 36 rfl)
    F_wrong_spot := F10
    b_wrong_spot := FunD.bindsN F10 fun _ _ _ _ _ _ us hl => match us, hl with | [_, _], _ => rfl
    g_need_run := He.glo_ok X G (c.d.fact 37 rfl)
    F_need_run := F11
    b_need_run := FunD.bindsN F11 fun _ _ _ _ _ _ us hl => match us, hl with | [_, _], _ => rfl
    g_times_of := He.glo_ok X G (c.d.fact 38 rfl)
    F_times_of := F12
    b_times_of := FunD.bindsN F12 fun _ _ _ _ _ _ us hl => match us, hl with | [_, _], _ => rfl
    g_need_all := He.glo_ok X G (c.d.fact 39 rfl)
    F_need_all := F13
    b_need_all := FunD.bindsN F13 fun _ _ _ _ _ _ us hl => match us, hl with | [_, _, _], _ => rfl
    g_markers := He.glo_ok X G (c.d.fact 40 rfl)
    F_markers := F14
    b_markers := FunD.bindsN F14 fun _ _ _ _ _ _ us hl => match us, hl with | [_, _, _], _ => rfl
    g_sight_of := He.glo_ok X G (c.d.fact 41 rfl)
    F_sight_of := F15
    b_sight_of := FunD.bindsN F15 fun _ _ _ _ _ _ us hl => match us, hl with | [_, _, _, _, _], _ => rfl
    g_seen_in := He.glo_ok X G (c.d.fact 42 rfl)
    F_seen_in := F16
    b_seen_in := FunD.bindsN F16 fun _ _ _ _ _ _ us hl => match us, hl with | [_, _, _], _ => rfl
    g_look_arrows := He.glo_ok X G (c.d.fact 43 rfl)
    F_look_arrows := F17
    b_look_arrows := FunD.bindsN F17 fun _ _ _ _ _ _ us hl => match us, hl with | [_, _, _], _ => rfl
    g_over_arrows := He.glo_ok X G (c.d.fact 44 rfl)
    F_over_arrows := F18
    b_over_arrows := FunD.bindsN F18 fun _ _ _ _ _ _ us hl => match us, hl with | [_, _], _ => rfl
    g_arrows_in := He.glo_ok X G (c.d.fact 45 rfl)
    F_arrows_in := F19
    b_arrows_in := FunD.bindsN F19 fun _ _ _ _ _ _ us hl => match us, hl with | [_, _, _], _ => rfl
    g_arrows := He.glo_ok X G (c.d.fact 46 rfl)
    F_arrows := F20
    b_arrows := FunD.bindsN F20 fun _ _ _ _ _ _ us hl => match us, hl with | [_, _, _], _ => rfl
    g_l_begun := He.glo_ok X G (c.d.fact 47 rfl)
    F_l_begun := F21
    b_l_begun := FunD.bindsN F21 fun _ _ _ _ _ _ us hl => match us, hl with | [_, _], _ => rfl
    g_l_draw := He.glo_ok X G (c.d.fact 48 rfl)
    F_l_draw := F22
    b_l_draw := FunD.bindsN F22 fun _ _ _ _ _ _ us hl => match us, hl with | [_, _], _ => rfl
    g_l_of := He.glo_ok X G (c.d.fact 49 rfl)
    F_l_of := F23
    b_l_of := FunD.bindsN F23 fun _ _ _ _ _ _ us hl => match us, hl with | [_, _], _ => rfl
    g_l_deed := He.glo_ok X G (c.d.fact 50 rfl)
    F_l_deed := F24
    b_l_deed := FunD.bindsN F24 fun _ _ _ _ _ _ us hl => match us, hl with | [_, _, _], _ => rfl
    g_l_crew := He.glo_ok X G (c.d.fact 51 rfl)
    F_l_crew := F25
    b_l_crew := FunD.bindsN F25 fun _ _ _ _ _ _ us hl => match us, hl with | [_, _, _], _ => rfl
    g_l_tiers := He.glo_ok X G (c.d.fact 52 rfl)
    F_l_tiers := F26
    b_l_tiers := FunD.bindsN F26 fun _ _ _ _ _ _ us hl => match us, hl with | [_, _], _ => rfl
    g_l_course := He.glo_ok X G (c.d.fact 53 rfl)
    F_l_course := F27
    b_l_course := FunD.bindsN F27 fun _ _ _ _ _ _ us hl => match us, hl with | [_, _], _ => rfl
    g_l_all_courses := He.glo_ok X G (c.d.fact 54 rfl)
    F_l_all_courses := F28
    b_l_all_courses := FunD.bindsN F28 fun _ _ _ _ _ _ us hl => match us, hl with | [_], _ => rfl
    g_l_clocks := He.glo_ok X G (c.d.fact 55 rfl)
    F_l_clocks := F29
    b_l_clocks := FunD.bindsN F29 fun _ _ _ _ _ _ us hl => match us, hl with | [_, _], _ => rfl
    g_l_marks := He.glo_ok X G (c.d.fact 56 rfl)
    F_l_marks := F30
    b_l_marks := FunD.bindsN F30 fun _ _ _ _ _ _ us hl => match us, hl with | [_, _], _ => rfl
    g_l_sight := He.glo_ok X G (c.d.fact 57 rfl)
    F_l_sight := F31
    b_l_sight := FunD.bindsN F31 fun _ _ _ _ _ _ us hl => match us, hl with | [_, _, _, _, _], _ => rfl
    g_l_looks := He.glo_ok X G (c.d.fact 58 rfl)
    F_l_looks := F32
    b_l_looks := FunD.bindsN F32 fun _ _ _ _ _ _ us hl => match us, hl with | [_], _ => rfl
    g_l_is_over := He.glo_ok X G (c.d.fact 59 rfl)
    F_l_is_over := F33
    b_l_is_over := FunD.bindsN F33 fun _ _ _ _ _ _ us hl => match us, hl with | [_, _, _, _], _ => rfl
    g_l_is_shown := He.glo_ok X G (c.d.fact 60 rfl)
    F_l_is_shown := F34
    b_l_is_shown := FunD.bindsN F34 fun _ _ _ _ _ _ us hl => match us, hl with | [_, _, _, _, _], _ => rfl
    g_l_is_missed := He.glo_ok X G (c.d.fact 61 rfl)
    F_l_is_missed := F35
    b_l_is_missed := FunD.bindsN F35 fun _ _ _ _ _ _ us hl => match us, hl with | [_, _, _, _, _], _ => rfl
    g_l_arrows := He.glo_ok X G (c.d.fact 62 rfl)
    F_l_arrows := F36
    b_l_arrows := FunD.bindsN F36 fun _ _ _ _ _ _ us hl => match us, hl with | [_, _, _], _ => rfl
    g_l_right := He.glo_ok X G (c.d.fact 63 rfl)
    F_l_right := F37
    b_l_right := FunD.bindsN F37 fun _ _ _ _ _ _ us hl => match us, hl with | [_, _, _], _ => rfl
    g_l_more := He.glo_ok X G (c.d.fact 64 rfl)
    F_l_more := F38
    b_l_more := FunD.bindsN F38 fun _ _ _ _ _ _ us hl => match us, hl with | [], _ => rfl
    g_l_hand := He.glo_ok X G (c.d.fact 65 rfl)
    F_l_hand := F39
    b_l_hand := FunD.bindsN F39 fun _ _ _ _ _ _ us hl => match us, hl with | [], _ => rfl
    g_law := He.glo_ok X G (c.d.fact 66 rfl)
    F_law := F40
    b_law := FunD.bindsN F40 fun _ _ _ _ _ _ us hl => match us, hl with | [_], _ => rfl
  }
end K06

end

section
/-! Loops of native readings as plain lists. -/
namespace MS
open PySem PySem.Spec PyProof.Rows L2 MX
section
variable {α β σ ρ γ : Type}
theorem foldR_acc {step : α → List β → RR (List β)} {f : α → List β} {B M : Nat} : ∀ (l : List α) (a0 : List β), (∀ x ∈ l, ∀ acc : List β, acc.length + B ≤ M → step x acc = .ok (acc ++ f x)) → (∀ x ∈ l, (f x).length ≤ B) → a0.length + l.length * B ≤ M →
    foldR step l a0 = .ok (a0 ++ l.flatMap f)
  | [], a0, _, _, _ => by simp [foldR]
  | x :: l, a0, h, hb, hz => by
    have e : (x :: l).length * B = l.length * B + B := by rw [List.length_cons, Nat.succ_mul]
    rw [e] at hz
    have h1 := h x (by simp) a0 (by omega)
    have hl := hb x (by simp)
    unfold foldR
    rw [h1]
    simp only
    rw [foldR_acc l (a0 ++ f x) (fun y hy => h y (by simp [hy])) (fun y hy => hb y (by simp [hy])) (by rw [List.length_append]; omega), List.flatMap_cons, List.append_assoc]
theorem forR_any {step : α → Unit → RR (Rz Unit ρ)} {p : α → Bool} {v : ρ} : ∀ (l : List α), (∀ x ∈ l, step x () = .ok (if p x = true then .rt v else .nx ())) → forR step l () = .ok (if l.any p = true then .rt v else .nx ())
  | [], _ => rfl
  | x :: l, h => by
    unfold forR
    rw [h x (by simp)]
    by_cases hp : p x = true
    · simp [hp]
    · simp only [hp, Bool.false_eq_true, if_false, List.any_cons, Bool.false_or]
      rw [forR_any l fun y hy => h y (by simp [hy])]
theorem forR_none {step : α → Unit → RR (Rz Unit ρ)} : ∀ (l : List α), (∀ x ∈ l, step x () = .ok (.nx ())) → forR step l () = .ok (.nx ())
  | [], _ => rfl
  | x :: l, h => by
    unfold forR
    rw [h x (by simp)]
    exact forR_none l fun y hy => h y (by simp [hy])
theorem lcR_eq {p : α → RR Bool} {f : α → RR γ} {p' : α → Bool} {f' : α → γ} : ∀ (l : List α), (∀ x ∈ l, p x = .ok (p' x)) → (∀ x ∈ l, p' x = true → f x = .ok (f' x)) → lcR p f l = .ok ((l.filter p').map f')
  | [], _, _ => rfl
  | x :: l, h1, h2 => by
    have ih := lcR_eq l (fun y hy => h1 y (by simp [hy])) (fun y hy => h2 y (by simp [hy]))
    unfold lcR
    rw [h1 x (by simp)]
    by_cases hp : p' x = true
    · rw [hp]
      simp only [h2 x (by simp) hp, ih, List.filter_cons, hp, if_true, List.map_cons]
    · have hp' : p' x = false := by simpa using hp
      rw [hp']
      simp only [ih, List.filter_cons, hp', Bool.false_eq_true, if_false]
theorem foldR_eq {step : α → σ → RR σ} {g : α → σ → σ} (I : σ → Prop) : ∀ (l : List α) (s : σ), I s → (∀ x ∈ l, ∀ s, I s → step x s = .ok (g x s) ∧ I (g x s)) → foldR step l s = .ok (l.foldl (fun s x => g x s) s) ∧ I (l.foldl (fun s x => g x s) s)
  | [], s, h, _ => ⟨rfl, h⟩
  | x :: l, s, h, hs => by
    obtain ⟨e, i⟩ := hs x (by simp) s h
    unfold foldR
    rw [e]
    exact foldR_eq I l (g x s) i fun y hy => hs y (by simp [hy])
theorem duR_eq [DecidableEq γ] {f : α → RR γ} {f' : α → γ} : ∀ (l : List α) (acc : List γ), (∀ x ∈ l, f x = .ok (f' x)) → acc.length + l.length ≤ sizeLine → duR (fun _ => .ok true) f l acc = .ok ((l.map f').foldl addK acc)
  | [], acc, _, _ => rfl
  | x :: l, acc, h, hz => by
    rw [List.length_cons] at hz
    unfold duR
    simp only [h x (by simp)]
    rw [if_pos (by omega)]
    have : (addK acc (f' x)).length ≤ acc.length + 1 := by unfold addK; split <;> simp
    exact duR_eq l _ (fun y hy => h y (by simp [hy])) (by omega)
theorem addK_mem [DecidableEq γ] {acc : List γ} {y z : γ} : z ∈ addK acc y ↔ z ∈ acc ∨ z = y := by
  unfold addK
  by_cases h : y ∈ acc
  · rw [if_pos h]
    exact ⟨.inl, fun q => q.elim id fun e => e ▸ h⟩
  · rw [if_neg h]; simp
theorem addK_nodup [DecidableEq γ] {acc : List γ} {y : γ} (h : acc.Nodup) : (addK acc y).Nodup := by
  unfold addK
  by_cases q : y ∈ acc
  · rw [if_pos q]; exact h
  · rw [if_neg q]
    refine List.nodup_append.mpr ⟨h, by simp, fun a ha b hb e => ?_⟩
    rw [List.mem_singleton] at hb
    subst e hb
    exact q ha
theorem nub_mem [DecidableEq γ] {z : γ} : ∀ (l acc : List γ), z ∈ l.foldl addK acc ↔ z ∈ acc ∨ z ∈ l
  | [], acc => by simp
  | x :: l, acc => by
    rw [List.foldl_cons, nub_mem l, addK_mem, List.mem_cons]
    constructor
    · rintro ((h | h) | h)
      · exact .inl h
      · exact .inr (.inl h)
      · exact .inr (.inr h)
    · rintro (h | h | h)
      · exact .inl (.inl h)
      · exact .inl (.inr h)
      · exact .inr h
theorem nub_nodup [DecidableEq γ] : ∀ (l acc : List γ), acc.Nodup → (l.foldl addK acc).Nodup
  | [], acc, h => h
  | x :: l, acc, h => nub_nodup l _ (addK_nodup h)
theorem nub_len [DecidableEq γ] : ∀ (l acc : List γ), (l.foldl addK acc).length ≤ acc.length + l.length
  | [], acc => by simp
  | x :: l, acc => by
    have h1 := nub_len l (addK acc x)
    have : (addK acc x).length ≤ acc.length + 1 := by unfold addK; split <;> simp
    rw [List.foldl_cons, List.length_cons]; omega
end
/-- one list of the same members in order -/
theorem same_sorted {α : Type} [DecidableEq α] (e : α → PV) {n : Nat} [DE e n] {lt : α → α → Bool} [OE e lt] {l m : List α} (h1 : l.Nodup) (h2 : m.Pairwise fun a b => lt a b = true) (h : ∀ x, x ∈ l ↔ x ∈ m) : sortR lt l = m := by
  have hm : m.Nodup := h2.imp fun {a b} q z => by subst z; rw [lt_irr e] at q; cases q
  have hp : l.Perm m := (List.perm_ext_iff_of_nodup h1 hm).mpr h
  refine sort_uniq e (sortR_srt e l) (h2.imp fun {a b} q => ?_) ((sortR_perm lt l).trans hp)
  cases q2 : lt b a with
  | false => rfl
  | true =>
    have := lt_tr e q q2
    rw [lt_irr e] at this; cases this
/-! indices -/
theorem atI_nat {α : Type} {l : List α} {k : Nat} : atI l (k : Int) = l[k]? := by
  unfold atI ixN
  rw [if_pos (by omega)]
  by_cases h : k < l.length
  · rw [if_pos (by omega)]; simp
  · rw [if_neg (by omega), List.getElem?_eq_none (by omega)]; rfl
theorem atI_last {α : Type} {l : List α} : atI l (-1) = l.getLast? := by
  unfold atI ixN
  rw [if_neg (by omega)]
  by_cases h : l = []
  · subst h; rfl
  · have : 0 < l.length := List.length_pos_iff.mpr h
    rw [if_pos (by omega), List.getLast?_eq_getElem?]
    simp only [Option.bind_some]
    congr 1; omega
theorem rngN0 (n : Nat) : rngN 0 n = (List.range n).map fun i : Nat => (i : Int) := by simp [rngN]
theorem rng1_ok {n : Nat} (h : n ≤ 1000) : rng1R (n : Int) = .ok ((List.range n).map fun i : Nat => (i : Int)) := by
  unfold rng1R
  rw [if_pos (show RngOk (n : Int) from Nat.ble_eq.mpr (by omega)), show (n : Int).toNat = n by omega, rngN0]
theorem enumN_eq {α : Type} : ∀ (l : List α) (i : Nat), enumN i l = (l.zipIdx i).map fun p => ((p.2 : Int), p.1)
  | [], _ => rfl
  | x :: l, i => by
    unfold enumN
    rw [List.zipIdx_cons, List.map_cons, enumN_eq l (i + 1)]
end MS

end

section
/-! A lot, its levels, a run: times, marks, sights. -/
namespace MS
open PySem PySem.Spec PyProof.Rows L2 MX
abbrev Lot := List (List (W × W))
theorem foldR_rel {α σ τ : Type} {step : α → σ → RR σ} {g : α → τ → τ} (R : σ → τ → Prop) : ∀ (l : List α) (s0 : σ) (t0 : τ), R s0 t0 → (∀ x ∈ l, ∀ s t, R s t → ∃ s', step x s = .ok s' ∧ R s' (g x t)) → ∃ s', foldR step l s0 = .ok s' ∧ R s' (l.foldl (fun t x => g x t) t0)
  | [], s0, t0, h, _ => ⟨s0, rfl, h⟩
  | x :: l, s0, t0, h, hs => by
    obtain ⟨s', e, r⟩ := hs x (by simp) s0 t0 h
    unfold foldR
    rw [e]
    exact foldR_rel R l s' _ r fun y hy => hs y (by simp [hy])
def dd (L : Lot) (o : Nat) : List (W × W) := (L[o]?).getD []
theorem dd_get {L : Lot} {o : Nat} (h : o < L.length) : L[o]? = some (dd L o) := by
  unfold dd; rw [List.getElem?_eq_getElem h]; rfl
theorem enum_range (L : Lot) : enumN 0 L = (List.range L.length).map fun o : Nat => ((o : Int), dd L o) := by
  rw [enumN_eq]
  refine List.ext_getElem? fun i => ?_
  rw [List.getElem?_map, List.getElem?_map]
  by_cases h : i < L.length
  · rw [List.getElem?_range h, List.getElem?_zipIdx, dd_get h]; simp
  · rw [List.getElem?_eq_none (by simp; omega), List.getElem?_eq_none (by simp; omega)]; rfl
structure Okc (L : Lot) (c : List Int) : Prop where
  n5 : L.length ≤ 5
  d5 : ∀ d ∈ L, d.length ≤ 5
  cr : ∀ x ∈ c, 0 ≤ x ∧ x < (L.length : Int)
  cnt : ∀ k : Nat, k < L.length → c.count (k : Int) = (dd L k).length + 1
  cl : c.length ≤ 30
def rowI (i : Nat) (c : List Int) (k : Int) : List Int := ((enumN i c).filter fun p => eqB p.2 k).map (·.1)
def rowT (c : List Int) (k : Nat) : List Int := rowI 0 c (k : Int)
def timT (n : Nat) (c : List Int) : List (List Int) := (List.range n).map (rowT c)
theorem row_len (k : Int) : ∀ (c : List Int) (i : Nat), (rowI i c k).length = c.count k
  | [], i => rfl
  | x :: c, i => by
    have ih := row_len k c (i + 1)
    unfold rowI at ih ⊢
    unfold enumN
    rw [List.filter_cons, List.count_cons]
    by_cases h : x = k
    · simp [h, eqB, ih] at *; exact ih
    · simp [h, eqB] at *; exact ih
theorem row_mem {k t : Int} : ∀ (c : List Int) (i : Nat), t ∈ rowI i c k ↔ ∃ j : Nat, t = ((i + j : Nat) : Int) ∧ c[j]? = some k
  | [], i => by simp [rowI, enumN]
  | x :: c, i => by
    have ih := row_mem (k := k) (t := t) c (i + 1)
    unfold rowI at ih ⊢
    unfold enumN
    rw [List.filter_cons]
    constructor
    · intro h
      by_cases hx : eqB x k = true
      · rw [if_pos hx, List.map_cons, List.mem_cons] at h
        rcases h with h | h
        · exact ⟨0, by simpa using h, by simpa using hx⟩
        · obtain ⟨j, e1, e2⟩ := ih.mp h
          exact ⟨j + 1, by rw [e1]; congr 1; omega, by simpa using e2⟩
      · rw [if_neg hx] at h
        obtain ⟨j, e1, e2⟩ := ih.mp h
        exact ⟨j + 1, by rw [e1]; congr 1; omega, by simpa using e2⟩
    · rintro ⟨j, e1, e2⟩
      cases j with
      | zero =>
        have hx : eqB x k = true := by simpa using e2
        rw [if_pos hx, List.map_cons, List.mem_cons]
        left; simpa using e1
      | succ j =>
        have q := ih.mpr ⟨j, by rw [e1]; congr 1; omega, by simpa using e2⟩
        by_cases hx : eqB x k = true
        · rw [if_pos hx, List.map_cons, List.mem_cons]; exact .inr q
        · rw [if_neg hx]; exact q
def la (c : List Int) (k : Nat) : Int := ((rowT c k).getLast?).getD 0
theorem la_get {c : List Int} {k : Nat} (h : 0 < c.count (k : Int)) : (rowT c k).getLast? = some (la c k) ∧ la c k ∈ rowT c k := by
  have hl : 0 < (rowT c k).length := by unfold rowT; rw [row_len]; exact h
  cases e : (rowT c k).getLast? with
  | none => rw [List.getLast?_eq_none_iff] at e; rw [e] at hl; cases hl
  | some x =>
    have : la c k = x := by unfold la; rw [e]; rfl
    rw [this]
    exact ⟨rfl, List.mem_of_getLast? e⟩
theorem la_inj {c : List Int} {k j : Nat} (hk : 0 < c.count (k : Int)) (hj : 0 < c.count (j : Int)) (h : la c k = la c j) : k = j := by
  obtain ⟨a, e1, e2⟩ := (row_mem c 0).mp (la_get hk).2
  obtain ⟨b, e3, e4⟩ := (row_mem c 0).mp (la_get hj).2
  have : a = b := by omega
  subst this
  rw [e2] at e4
  have := Option.some.inj e4
  omega
section
variable {L : Lot} {c : List Int}
theorem Okc.pos (h : Okc L c) {k : Nat} (hk : k < L.length) : 0 < c.count (k : Int) := by rw [h.cnt k hk]; omega
theorem Okc.dl (h : Okc L c) {k : Nat} (hk : k < L.length) : (dd L k).length ≤ 5 := h.d5 _ (List.mem_of_getElem? (dd_get hk))
theorem tim_get {n k : Nat} (hk : k < n) : atI (timT n c) (k : Int) = some (rowT c k) := by
  rw [atI_nat]; unfold timT; rw [List.getElem?_map, List.getElem?_range hk]; rfl
theorem Okc.last (h : Okc L c) {k : Nat} (hk : k < L.length) : atI (rowT c k) (-1) = some (la c k) := by
  rw [atI_last]; exact (la_get (h.pos hk)).1
theorem times_ok (h : Okc L c) : n_times_of L c = .ok (timT L.length c) := by
  unfold n_times_of
  have n5 := h.n5
  rw [rng1_ok (by omega), RR.bnd_ok]
  rw [lcR_eq (p' := fun _ => true) (f' := fun k => rowI 0 c k)]
  · rw [RR.bnd_ok, List.filter_eq_self.mpr (fun _ _ => rfl), fitR_ok (by simp; omega)]
    simp only [List.map_map, RR.san_ok]
    rfl
  · intros; rfl
  · intro x _ _
    have : (rowI 0 c x).length ≤ 30 := by rw [row_len]; exact Nat.le_trans List.count_le_length h.cl
    exact fitR_ok (by show (rowI 0 c x).length ≤ _; omega)
theorem clk_run : ∀ (c : List Int) (i : Nat) (st : List (List Int)), (∀ x ∈ c, 0 ≤ x ∧ x < (st.length : Int)) → (∀ l ∈ st, l.length + c.length ≤ 1000) →
    ∃ r, foldR clkStep (enumN i c) st = .ok r ∧ r.length = st.length ∧ ∀ k : Nat, r[k]? = (st[k]?).map fun l => l ++ rowI i c (k : Int)
  | [], i, st, _, _ => ⟨st, rfl, rfl, fun k => by simp [rowI, enumN]⟩
  | x :: c, i, st, h, hb => by
    obtain ⟨x0, x1⟩ := h x (by simp)
    have hx : x.toNat < st.length := by omega
    have hl := List.getElem?_eq_getElem hx
    have hbl := hb _ (List.getElem_mem hx)
    rw [List.length_cons] at hbl
    have e : clkStep ((i : Int), x) st = .ok (st.set x.toNat (st[x.toNat] ++ [(i : Int)])) := by
      unfold clkStep
      simp only
      rw [if_pos x0, hl]
      simp only
      rw [if_pos (Nat.lt_of_lt_of_le (show st[x.toNat].length < 1001 by omega) (by decide))]
    obtain ⟨r, e1, e2, e3⟩ := clk_run c (i + 1) (st.set x.toNat (st[x.toNat] ++ [(i : Int)])) (fun y hy => by simpa using h y (by simp [hy])) (fun l hm => by
      rcases List.mem_or_eq_of_mem_set hm with hm | rfl
      · have := hb l hm; rw [List.length_cons] at this; omega
      · rw [List.length_append, List.length_singleton]; omega)
    refine ⟨r, ?_, by rw [e2, List.length_set], fun k => ?_⟩
    · unfold enumN foldR
      rw [e]
      exact e1
    · rw [e3 k]
      unfold rowI
      rw [show enumN i (x :: c) = ((i : Int), x) :: enumN (i + 1) c from rfl, List.filter_cons]
      by_cases hk : x.toNat = k
      · subst hk
        rw [List.getElem?_set_self hx, hl, if_pos (by simp; omega)]
        simp
      · rw [List.getElem?_set_ne hk, if_neg (by simp; omega)]
theorem clocks_ok (h : Okc L c) : n_l_clocks L c = .ok (timT L.length c) := by
  have n5 := h.n5
  unfold n_l_clocks
  rw [if_pos (Nat.le_trans n5 (by decide))]
  obtain ⟨r, e1, e2, e3⟩ := clk_run c 0 (L.map fun _ => []) (by simpa using h.cr) (by
    have := h.cl
    intro l hl
    obtain ⟨d, _, rfl⟩ := List.mem_map.mp hl
    simp; omega)
  rw [e1]
  congr 1
  refine List.ext_getElem? fun k => ?_
  rw [e3 k, List.getElem?_map]
  unfold timT
  by_cases hk : k < L.length
  · rw [List.getElem?_map, List.getElem?_range hk, dd_get hk]; simp [rowT]
  · rw [List.getElem?_eq_none (by omega), List.getElem?_eq_none (by simp; omega)]; rfl
end
/-! marks -/
def mks (L : Lot) (k : Nat) (w : W) : List Nat := (List.range L.length).filter fun o => !decide (o = k) && inB (w_mark, w) (dd L o)
theorem mks_mem {L : Lot} {k o : Nat} {w : W} : o ∈ mks L k w ↔ o < L.length ∧ o ≠ k ∧ (w_mark, w) ∈ dd L o := by
  unfold mks
  rw [List.mem_filter, List.mem_range]; simp
theorem mks_len (L : Lot) (k : Nat) (w : W) : (mks L k w).length ≤ L.length := by
  unfold mks
  exact Nat.le_trans (List.length_filter_le _ _) (by simp)
theorem markers_ok {L : Lot} {k : Nat} {w : W} (h : L.length ≤ 5) : n_markers L (k : Int) w = .ok ((mks L k w).map fun o : Nat => (o : Int)) := by
  unfold n_markers
  rw [enum_range, List.filter_map, List.map_map]
  have e : ((fun v1 : Int × List (W × W) => !eqB v1.fst (k : Int) && inB (w_mark, w) v1.snd) ∘ fun o : Nat => ((o : Int), dd L o)) = fun o : Nat => !decide (o = k) && inB (w_mark, w) (dd L o) := by
    funext o
    simp only [Function.comp]
    congr 2
    unfold eqB
    exact decide_eq_decide.mpr ⟨fun q => by omega, fun q => by omega⟩
  rw [e, fitR_ok (by
    have := mks_len L k w
    unfold mks at this
    rw [List.length_map]; omega)]
  rfl
/-! sights -/
def IsS (c : List Int) (cand : List Nat) : Option Nat → Prop
  | none => cand = []
  | some o => o ∈ cand ∧ ∀ x ∈ cand, la c x ≤ la c o
theorem IsS.uniq {c : List Int} {cand : List Nat} {r r' : Option Nat} (hp : ∀ o ∈ cand, 0 < c.count (o : Int)) (h : IsS c cand r) (h' : IsS c cand r') : r = r' := by
  cases r with
  | none =>
    cases r' with
    | none => rfl
    | some o => have : cand = [] := h; subst this; cases h'.1
  | some o =>
    cases r' with
    | none => have : cand = [] := h'; subst this; cases h.1
    | some o' => rw [la_inj (hp o h.1) (hp o' h'.1) (Int.le_antisymm (h'.2 o h.1) (h.2 o' h'.1))]
def bst (c : List Int) (b : Option Nat) (o : Nat) : Option Nat := match b with
  | none => some o
  | some b' => if la c b' < la c o then some o else some b'
theorem bst_some (c : List Int) : ∀ (l : List Nat) (b : Nat), ∃ r, l.foldl (bst c) (some b) = some r ∧ r ∈ b :: l ∧ ∀ x ∈ b :: l, la c x ≤ la c r
  | [], b => ⟨b, rfl, by simp, by simp⟩
  | o :: l, b => by
    rw [List.foldl_cons]
    by_cases h : la c b < la c o
    · obtain ⟨r, e, m, q⟩ := bst_some c l o
      refine ⟨r, by rw [show bst c (some b) o = some o from if_pos h]; exact e, List.mem_cons_of_mem _ m, fun x hx => ?_⟩
      rcases List.mem_cons.mp hx with rfl | hx
      · have := q o (by simp); omega
      · exact q x hx
    · obtain ⟨r, e, m, q⟩ := bst_some c l b
      refine ⟨r, by rw [show bst c (some b) o = some b from if_neg h]; exact e, ?_, fun x hx => ?_⟩
      · rcases List.mem_cons.mp m with rfl | m
        · simp
        · simp [m]
      · rcases List.mem_cons.mp hx with rfl | hx
        · exact q _ (by simp)
        · rcases List.mem_cons.mp hx with rfl | hx
          · have := q b (by simp); omega
          · exact q x (by simp [hx])
def sg (c : List Int) (cand : List Nat) : Option Nat := cand.foldl (bst c) none
theorem sg_is (c : List Int) (cand : List Nat) : IsS c cand (sg c cand) := by
  cases cand with
  | nil => rfl
  | cons o l =>
    obtain ⟨r, e, m, q⟩ := bst_some c l o
    show IsS c _ (l.foldl (bst c) (some o))
    rw [e]
    exact ⟨m, q⟩
theorem maxR_is {α : Type} [DecidableEq α] (e : α → PV) {n : Nat} [DE e n] {lt : α → α → Bool} [OE e lt] : ∀ (l : List α) (x : α), ∃ q, l.foldl (fun a y => if lt a y = true then y else a) x = q ∧ q ∈ x :: l ∧ ∀ y ∈ x :: l, lt q y = false
  | [], x => ⟨x, rfl, by simp, by simpa using lt_irr e x⟩
  | y :: l, x => by
    rw [List.foldl_cons]
    by_cases h : lt x y = true
    · obtain ⟨q, e1, m, f⟩ := maxR_is e l y
      rw [if_pos h]
      refine ⟨q, e1, List.mem_cons_of_mem _ m, fun z hz => ?_⟩
      rcases List.mem_cons.mp hz with rfl | hz
      · cases k : lt q z with
        | false => rfl
        | true => have := lt_tr e k h; rw [f y (by simp)] at this; cases this
      · exact f z hz
    · obtain ⟨q, e1, m, f⟩ := maxR_is e l x
      rw [if_neg h]
      refine ⟨q, e1, ?_, fun z hz => ?_⟩
      · rcases List.mem_cons.mp m with rfl | m
        · simp
        · simp [m]
      · rcases List.mem_cons.mp hz with rfl | hz
        · exact f _ (by simp)
        · rcases List.mem_cons.mp hz with rfl | hz
          · cases k : lt q z with
            | false => rfl
            | true =>
              rcases lt_neg e (b := x) k with k1 | k1
              · rw [f x (by simp)] at k1; cases k1
              · exact absurd k1 h
          · exact f z (by simp [hz])
end MS

end

section
/-! Sights, by the program and by the law. -/
namespace MS
open PySem PySem.Spec PyProof.Rows L2 MX
def lvk (lv : List W) (k : Nat) : W := (lv[k]?).getD w_late
def st (L : Lot) (k p : Nat) : W × W := ((dd L k)[p]?).getD (w_look, w_look)
def mo (L : Lot) (lv : List W) (c : List Int) (k p : Nat) : Int := ((rowT c k)[if lvk lv k = w_late then p else 0]?).getD 0
def cnd (L : Lot) (lv : List W) (c : List Int) (k p : Nat) : List Nat := (mks L k (st L k p).2).filter fun o => decide (la c o < mo L lv c k p)
def sgt (L : Lot) (lv : List W) (c : List Int) (k p : Nat) : Option Nat := sg c (cnd L lv c k p)
abbrev ci (o : Nat) : Int := (o : Int)
section
variable {L : Lot} {lv : List W} {c : List Int} {k p : Nat}
theorem lv_get (h : k < lv.length) : atI lv (k : Int) = some (lvk lv k) := by
  rw [atI_nat]; unfold lvk; rw [List.getElem?_eq_getElem h]; rfl
theorem lot_get (h : k < L.length) : atI L (k : Int) = some (dd L k) := by rw [atI_nat]; exact dd_get h
theorem st_get (h : p < (dd L k).length) : atI (dd L k) (p : Int) = some (st L k p) := by
  rw [atI_nat]; unfold st; rw [List.getElem?_eq_getElem h]; rfl
theorem row_at (h : Okc L c) (hk : k < L.length) {i : Nat} (hi : i < (dd L k).length + 1) : (rowT c k)[i]? = some (((rowT c k)[i]?).getD 0) := by
  have : i < (rowT c k).length := by unfold rowT; rw [row_len, h.cnt k hk]; exact hi
  rw [List.getElem?_eq_getElem this]; rfl
theorem mo_late (h : Okc L c) (hk : k < L.length) (hp : p < (dd L k).length) (e : lvk lv k = w_late) : atI (rowT c k) (p : Int) = some (mo L lv c k p) := by
  rw [atI_nat]; unfold mo; rw [if_pos e]; exact row_at h hk (by omega)
theorem mo_else (h : Okc L c) (hk : k < L.length) (e : ¬ lvk lv k = w_late) : atI (rowT c k) 0 = some (mo L lv c k p) := by
  rw [show (0 : Int) = ((0 : Nat) : Int) from rfl, atI_nat]; unfold mo; rw [if_neg e]; exact row_at h hk (by omega)
theorem cnd_mem {o : Nat} : o ∈ cnd L lv c k p ↔ (o < L.length ∧ o ≠ k ∧ (w_mark, (st L k p).2) ∈ dd L o) ∧ la c o < mo L lv c k p := by
  unfold cnd
  rw [List.mem_filter, mks_mem]; simp
theorem filter_ci (q : Int → Bool) (l : List Nat) : (l.map ci).filter q = (l.filter fun o => q (ci o)).map ci := by rw [List.filter_map]; rfl
theorem sight_ok (h : Okc L c) (hl : lv.length = L.length) (hk : k < L.length) (hp : p < (dd L k).length) : n_sight_of L lv (timT L.length c) (k : Int) (p : Int) = .ok ((sgt L lv c k p).map ci) := by
  have f1 := tim_get (n := L.length) (c := c) hk
  have f2 := lv_get (lv := lv) (k := k) (by omega)
  have f3 := lot_get (L := L) hk
  have f4 := st_get (L := L) hp
  have n5 := h.n5
  unfold n_sight_of
  have e1 : (RR.bnd (RR.ofO (atI (timT L.length c) (k : Int))) fun v4 => RR.bnd (RR.bnd (RR.bnd (RR.ofO (atI lv (k : Int))) fun v1 => RR.bnd (.ok w_late) fun v2 => RR.ok (eqB v1 v2)) fun v3 => if v3 = true then (RR.ok (p : Int)) else (.ok (0 : Int))) fun v5 => (RR.ofO (atI v4 v5))) = .ok (mo L lv c k p) := by
    simp only [f1, f2, RR.ofO_some, RR.bnd_ok]
    by_cases e : lvk lv k = w_late
    · rw [if_pos (by simpa using e), RR.bnd_ok, mo_late h hk hp e]; rfl
    · rw [if_neg (by simpa using e), RR.bnd_ok, mo_else h hk e]; rfl
  rw [e1]
  simp only [f3, f4, RR.ofO_some, RR.bnd_ok]
  rw [markers_ok n5, RR.bnd_ok]
  rw [lcR_eq (p' := fun x : Int => decide (la c x.toNat < mo L lv c k p)) (f' := fun x : Int => (la c x.toNat, x))]
  · have e2 : (List.filter (fun x : Int => decide (la c x.toNat < mo L lv c k p)) ((mks L k (st L k p).2).map fun o : Nat => (o : Int))).map (fun x : Int => (la c x.toNat, x)) = (cnd L lv c k p).map fun o : Nat => (la c o, (o : Int)) := by
      rw [show ((mks L k (st L k p).2).map fun o : Nat => (o : Int)) = (mks L k (st L k p).2).map ci from rfl, filter_ci, List.map_map]
      rfl
    rw [e2]
    have hlen : (cnd L lv c k p).length ≤ 5 := by
      unfold cnd
      have := mks_len L k (st L k p).2
      exact Nat.le_trans (List.length_filter_le _ _) (by omega)
    rw [RR.bnd_ok, fitR_ok (by rw [List.length_map]; omega), RR.bnd_ok]
    have hpos : ∀ o ∈ cnd L lv c k p, 0 < c.count (o : Int) := fun o ho => h.pos (cnd_mem.mp ho).1.1
    have his := sg_is c (cnd L lv c k p)
    show RR.san _ = RR.ok ((sg c (cnd L lv c k p)).map ci)
    cases hc : cnd L lv c k p with
    | nil => rfl
    | cons o r =>
      rw [hc] at hpos his
      rw [if_pos (by simp [eqB])]
      obtain ⟨q, eq, m, f⟩ := maxR_is (eT2 eI eI) (r.map fun o : Nat => (la c o, (o : Int))) (la c o, (o : Int))
      show RR.san (RR.bnd (RR.bnd (RR.ok (List.foldl _ (la c o, (o : Int)) (r.map fun o : Nat => (la c o, (o : Int))))) _) _) = _
      rw [eq]
      simp only [RR.bnd_ok, RR.san_ok]
      have m' : q ∈ (o :: r).map fun o : Nat => (la c o, (o : Int)) := m
      obtain ⟨b, hb, rfl⟩ := List.mem_map.mp m'
      have is2 : IsS c (o :: r) (some b) := ⟨hb, fun x hx => by
        have g := f (la c x, (x : Int)) (show _ ∈ (o :: r).map fun o : Nat => (la c o, (o : Int)) from List.mem_map.mpr ⟨x, hx, rfl⟩)
        unfold ltP ltI at g
        split at g
        · rename_i z
          simp only at z; omega
        · simpa using g⟩
      rw [IsS.uniq hpos his is2]; rfl
  · intro x hx
    obtain ⟨o, ho, rfl⟩ := List.mem_map.mp hx
    have on := (mks_mem.mp ho).1
    simp only [tim_get (n := L.length) (c := c) on, h.last on, RR.ofO_some, RR.bnd_ok, Int.toNat_natCast]
  · intro x hx _
    obtain ⟨o, ho, rfl⟩ := List.mem_map.mp hx
    have on := (mks_mem.mp ho).1
    simp only [tim_get (n := L.length) (c := c) on, h.last on, RR.ofO_some, RR.bnd_ok, Int.toNat_natCast]
/-- the law's loop over the deeds -/
theorem best_loop (h : Okc L c) (w : W) (m : Int) (step : Int → Option Int → RR (Option Int))
    (hs : ∀ o, o < L.length → ∀ b : Option Nat, (∀ x, b = some x → x < L.length) → step (o : Int) (b.map ci) = .ok ((if o ≠ k ∧ (w_mark, w) ∈ dd L o ∧ la c o < m then bst c b o else b).map ci)) :
    foldR step ((List.range L.length).map fun i : Nat => (i : Int)) none = .ok ((sg c ((mks L k w).filter fun o => decide (la c o < m))).map ci) := by
  have key : ∀ (l : List Nat) (b : Option Nat), (∀ o ∈ l, o < L.length) → (∀ x, b = some x → x < L.length) → foldR step (l.map fun i : Nat => (i : Int)) (b.map ci) = .ok (((l.filter fun o => (!decide (o = k) && inB (w_mark, w) (dd L o)) && decide (la c o < m)).foldl (bst c) b).map ci) := by
    intro l
    induction l with
    | nil => intro b _ _; rfl
    | cons o l ih =>
      intro b hl hb
      have ho := hl o (by simp)
      rw [List.map_cons]
      unfold foldR
      rw [hs o ho b hb]
      simp only
      by_cases hc : o ≠ k ∧ (w_mark, w) ∈ dd L o ∧ la c o < m
      · rw [if_pos hc, List.filter_cons, if_pos (by simp [hc.1, hc.2.1, hc.2.2]), List.foldl_cons]
        refine ih (bst c b o) (fun y hy => hl y (by simp [hy])) fun x hx => ?_
        unfold bst at hx
        split at hx
        · cases hx; exact ho
        · rename_i b'
          split at hx
          · cases hx; exact ho
          · cases hx; exact hb _ rfl
      · rw [if_neg hc, List.filter_cons, if_neg (by
          intro z
          simp only [Bool.and_eq_true, Bool.not_eq_true', decide_eq_false_iff_not, decide_eq_true_eq, inB_iff] at z
          exact hc ⟨z.1.1, z.1.2, z.2⟩)]
        exact ih b (fun y hy => hl y (by simp [hy])) hb
  have := key (List.range L.length) none (fun o ho => List.mem_range.mp ho) (fun x hx => by cases hx)
  rw [show (none : Option Nat).map ci = none from rfl] at this
  rw [this]
  unfold sg mks
  rw [List.filter_filter]
  congr 3
  refine List.filter_congr fun o _ => ?_
  rw [Bool.and_comm]
theorem l_sight_ok (h : Okc L c) (hl : lv.length = L.length) (hk : k < L.length) (hp : p < (dd L k).length) : n_l_sight L lv (timT L.length c) (k : Int) (p : Int) = .ok ((sgt L lv c k p).map ci) := by
  have f1 := tim_get (n := L.length) (c := c) hk
  have f2 := lv_get (lv := lv) (k := k) (by omega)
  have f3 := lot_get (L := L) hk
  have f4 := st_get (L := L) hp
  have n5 := h.n5
  have f0 : atI (rowT c k) 0 = some (((rowT c k)[0]?).getD 0) := by
    rw [show (0 : Int) = ((0 : Nat) : Int) from rfl, atI_nat]; exact row_at h hk (by omega)
  have body : ∀ m : Int, ∀ o, o < L.length → ∀ b : Option Nat, (∀ x, b = some x → x < L.length) →
      (RR.bnd (RR.bnd (.ok (!eqB (o : Int) (k : Int))) fun v25 => if v25 = true then (RR.bnd (RR.bnd (RR.ofO (atI L (o : Int))) fun v18 => RR.bnd (.ok (st L k p).2) fun v19 => n_l_marks v18 v19) fun v24 => if v24 = true then (RR.bnd (RR.bnd (RR.ofO (atI (timT L.length c) (o : Int))) fun v20 => RR.bnd (.ok (-(1 : Int))) fun v21 => (RR.ofO (atI v20 v21))) fun v22 => RR.bnd (.ok m) fun v23 => RR.ok (decide (v22 < v23))) else .ok false) else .ok false) fun v45 =>
        if v45 = true then (RR.bnd (RR.bnd (.ok (Option.isNone (b.map ci))) fun v43 => if v43 = true then .ok true else (RR.bnd (RR.bnd (RR.ofO (atI (timT L.length c) (o : Int))) fun v35 => RR.bnd (.ok (-(1 : Int))) fun v36 => (RR.ofO (atI v35 v36))) fun v41 => RR.bnd (RR.bnd (RR.bnd (.ok (timT L.length c)) fun v37 => RR.bnd (unO (b.map ci)) fun v38 => (RR.ofO (atI v37 v38))) fun v39 => RR.bnd (.ok (-(1 : Int))) fun v40 => (RR.ofO (atI v39 v40))) fun v42 => RR.ok (decide (v42 < v41)))) fun v44 => if v44 = true then .ok (some (o : Int)) else .ok (b.map ci)) else RR.ok (b.map ci))
      = .ok ((if o ≠ k ∧ (w_mark, (st L k p).2) ∈ dd L o ∧ la c o < m then bst c b o else b).map ci) := by
    intro m o ho b hb
    have g1 := tim_get (n := L.length) (c := c) ho
    have g2 := lot_get (L := L) ho
    have g3 := h.last ho
    by_cases e1 : o = k
    · subst e1
      simp [eqB]
    · have e1' : eqB (o : Int) (k : Int) = false := by simp; omega
      by_cases e2 : (w_mark, (st L k p).2) ∈ dd L o
      · by_cases e3 : la c o < m
        · cases b with
          | none => simp [e1, e1', e2, e3, g1, g2, g3, n_l_marks, bst]
          | some b' =>
            have hb' := hb b' rfl
            have q1 := tim_get (n := L.length) (c := c) hb'
            have q3 := h.last hb'
            have q2 : (timT L.length c)[b']? = some (rowT c b') := by rw [← atI_nat]; exact q1
            by_cases e4 : la c b' < la c o
            · simp [e1, e1', e2, e3, e4, g1, g2, g3, q1, q2, q3, n_l_marks, bst, ci]
            · simp [e1, e1', e2, e3, e4, g1, g2, g3, q1, q2, q3, n_l_marks, bst, ci]
        · simp [e1, e1', e2, e3, g1, g2, g3, n_l_marks]
      · simp [e1, e1', e2, g1, g2, g3, n_l_marks]
  unfold n_l_sight
  simp only [f0, f1, f2, f3, f4, RR.ofO_some, RR.bnd_ok, rng1_ok (show L.length ≤ 1000 by omega)]
  by_cases e : lvk lv k = w_late
  · rw [if_pos (by simpa using e)]
    simp only [mo_late (lv := lv) h hk hp e, RR.ofO_some, RR.bnd_ok]
    rw [best_loop h (st L k p).2 (mo L lv c k p) _ (body (mo L lv c k p)), RR.bnd_ok]
    rfl
  · rw [if_neg (by simpa using e)]
    have em : ((rowT c k)[0]?).getD 0 = mo L lv c k p := by unfold mo; rw [if_neg e]
    rw [em, best_loop h (st L k p).2 (mo L lv c k p) _ (body (mo L lv c k p)), RR.bnd_ok]
    rfl
end
end MS

end

section
/-! Arrows, by the program. -/
namespace MS
open PySem PySem.Spec PyProof.Rows L2 MX
abbrev Arr := Int × Int × W
theorem enumR {α : Type} (z : α) (l : List α) : enumN 0 l = (List.range l.length).map fun o : Nat => ((o : Int), (l[o]?).getD z) := by
  rw [enumN_eq]
  refine List.ext_getElem? fun i => ?_
  rw [List.getElem?_map, List.getElem?_map]
  by_cases h : i < l.length
  · rw [List.getElem?_range h, List.getElem?_zipIdx, List.getElem?_eq_getElem h]; simp [List.getElem?_eq_getElem h]
  · rw [List.getElem?_eq_none (by simp; omega), List.getElem?_eq_none (by simp; omega)]; rfl
theorem flat_len {α β : Type} {f : α → List β} {B : Nat} : ∀ (l : List α), (∀ x ∈ l, (f x).length ≤ B) → (l.flatMap f).length ≤ l.length * B
  | [], _ => by simp
  | x :: l, h => by
    rw [List.flatMap_cons, List.length_append, List.length_cons, Nat.succ_mul]
    have h1 := flat_len l fun y hy => h y (by simp [hy])
    have h2 := h x (by simp)
    omega
theorem app1 {β : Type} {acc : List β} {x : β} {M : Nat} (h : acc.length + 1 ≤ M) (hM : M ≤ 10000) : (if acc.length < sizeLine then RR.ok (acc ++ [x]) else .stuck) = .ok (acc ++ [x]) := if_pos (Nat.lt_of_lt_of_le (show acc.length < 10001 by omega) (by decide))
theorem appN {β : Type} {acc l : List β} {M : Nat} (h : acc.length + l.length ≤ M) (hM : M ≤ 10000) : (if acc.length + l.length ≤ sizeLine then RR.ok (acc ++ l) else .stuck) = .ok (acc ++ l) := if_pos (Nat.le_trans (show acc.length + l.length ≤ 10000 by omega) (by decide))
section
variable {L : Lot} {lv : List W} {c : List Int} {k p : Nat}
/-! over -/
def ths (d : List (W × W)) : List W := (d.filter fun s => eqB s.1 w_mark).map (·.2)
theorem ths_mem {d : List (W × W)} {w : W} : w ∈ ths d ↔ (w_mark, w) ∈ d := by
  unfold ths
  rw [List.mem_map]
  constructor
  · rintro ⟨s, hs, rfl⟩
    obtain ⟨h1, h2⟩ := List.mem_filter.mp hs
    have : s.1 = w_mark := by simpa using h2
    rw [← this]; exact h1
  · intro h
    exact ⟨_, List.mem_filter.mpr ⟨h, by simp⟩, rfl⟩
theorem ths_len (d : List (W × W)) : (ths d).length ≤ d.length := by
  unfold ths; rw [List.length_map]; exact List.length_filter_le _ _
theorem things_ok {d : List (W × W)} (h : d.length ≤ 5) : n_things_in d w_mark = .ok (ths d) := by
  unfold n_things_in
  have := ths_len d
  rw [fitR_ok (by unfold ths at this; omega)]; rfl
def ov1 (L : Lot) (c : List Int) (k : Nat) (w : W) : List Arr := ((mks L k w).filter fun o => decide (la c k < la c o)).map fun o => (ci k, ci o, w_over)
def ovk (L : Lot) (c : List Int) (k : Nat) : List Arr := (ths (dd L k)).flatMap (ov1 L c k)
def ovs (L : Lot) (c : List Int) : List Arr := (List.range L.length).flatMap (ovk L c)
theorem ov1_len (h : L.length ≤ 5) (w : W) : (ov1 L c k w).length ≤ 5 := by
  unfold ov1
  rw [List.length_map]
  exact Nat.le_trans (List.length_filter_le _ _) (Nat.le_trans (mks_len L k w) h)
theorem ovk_len (h : Okc L c) (hk : k < L.length) : (ovk L c k).length ≤ 25 := by
  have h1 := flat_len (f := ov1 L c k) (B := 5) (ths (dd L k)) fun w _ => ov1_len h.n5 w
  have h2 := ths_len (dd L k)
  have h3 := h.dl hk
  unfold ovk; omega
theorem over_ok (h : Okc L c) : n_over_arrows L (timT L.length c) = .ok (ovs L c) := by
  have n5 := h.n5
  unfold n_over_arrows
  rw [enum_range]
  rw [foldR_acc (f := fun x => ovk L c x.1.toNat) (B := 25) (M := 1000)]
  · rw [RR.bnd_ok]
    unfold ovs
    rw [List.flatMap_map]
    simp
  · intro x hx acc ha
    obtain ⟨o, ho, rfl⟩ := List.mem_map.mp hx
    have on := List.mem_range.mp ho
    have hd := h.dl on
    have hth := ths_len (dd L o)
    simp only
    rw [things_ok hd, RR.bnd_ok, foldR_acc (f := ov1 L c o) (B := 5) (M := 1000)]
    · rw [RR.bnd_ok, Int.toNat_natCast]; rfl
    · intro w _ acc2 ha2
      rw [markers_ok n5, RR.bnd_ok, lcR_eq (p' := fun x : Int => decide (la c o < la c x.toNat)) (f' := fun x : Int => x)]
      · rw [show ((mks L o w).map fun o : Nat => (o : Int)) = (mks L o w).map ci from rfl, filter_ci]
        have hl := ov1_len (c := c) (k := o) n5 w
        unfold ov1 at hl
        rw [List.length_map] at hl
        rw [List.map_id', RR.bnd_ok, fitR_ok (by rw [List.length_map]; simpa using Nat.le_trans hl (by decide)), RR.bnd_ok, List.map_map, fitR_ok (by rw [List.length_map]; simpa using Nat.le_trans hl (by decide)), RR.bnd_ok]
        have e : (List.filter (fun o_1 : Nat => decide (la c o < la c (ci o_1).toNat)) (mks L o w)).map ((fun v19 => ((o : Int), v19, w_over)) ∘ ci) = ov1 L c o w := rfl
        rw [e]
        exact appN (M := 1000) (by have := ov1_len (c := c) (k := o) n5 w; omega) (by decide)
      · intro x hx
        obtain ⟨j, hj, rfl⟩ := List.mem_map.mp hx
        have jn := (mks_mem.mp hj).1
        simp only [tim_get (n := L.length) (c := c) on, tim_get (n := L.length) (c := c) jn, h.last on, h.last jn, RR.ofO_some, RR.bnd_ok, Int.toNat_natCast]
      · intros; rfl
    · exact fun w _ => ov1_len n5 w
    · omega
  · intro x hx
    obtain ⟨o, ho, rfl⟩ := List.mem_map.mp hx
    simp only [Int.toNat_natCast]
    exact ovk_len h (List.mem_range.mp ho)
  · simp; omega
/-! seen -/
def se1 (L : Lot) (lv : List W) (c : List Int) (k p : Nat) : List (Int × Int × Option Int) := if eqB (st L k p).1 w_look = true then [(ci k, ci p, (sgt L lv c k p).map ci)] else []
def sek (L : Lot) (lv : List W) (c : List Int) (k : Nat) : List (Int × Int × Option Int) := (List.range (dd L k).length).flatMap (se1 L lv c k)
def ses (L : Lot) (lv : List W) (c : List Int) : List (Int × Int × Option Int) := (List.range L.length).flatMap (sek L lv c)
theorem se1_len : (se1 L lv c k p).length ≤ 1 := by unfold se1; split <;> simp
theorem sek_len (h : Okc L c) (hk : k < L.length) : (sek L lv c k).length ≤ 5 := by
  have h1 := flat_len (f := se1 L lv c k) (B := 1) (List.range (dd L k).length) fun p _ => se1_len
  have h3 := h.dl hk
  rw [List.length_range] at h1
  unfold sek; omega
theorem ses_len (h : Okc L c) : (ses L lv c).length ≤ 25 := by
  have h1 := flat_len (f := sek L lv c) (B := 5) (List.range L.length) fun k hk => sek_len h (List.mem_range.mp hk)
  have h3 := h.n5
  rw [List.length_range] at h1
  unfold ses; omega
theorem seen_ok (h : Okc L c) (hl : lv.length = L.length) : n_seen_in L lv (timT L.length c) = .ok (ses L lv c) := by
  have n5 := h.n5
  unfold n_seen_in
  rw [enum_range]
  rw [foldR_acc (f := fun x => sek L lv c x.1.toNat) (B := 5) (M := 1000)]
  · rw [RR.bnd_ok]
    unfold ses
    rw [List.flatMap_map]
    simp
  · intro x hx acc ha
    obtain ⟨o, ho, rfl⟩ := List.mem_map.mp hx
    have on := List.mem_range.mp ho
    have hd := h.dl on
    simp only
    rw [enumR (w_look, w_look), foldR_acc (f := fun x => se1 L lv c o x.1.toNat) (B := 1) (M := 1000)]
    · rw [RR.bnd_ok, Int.toNat_natCast, List.flatMap_map]; rfl
    · intro y hy acc2 ha2
      obtain ⟨q, hq, rfl⟩ := List.mem_map.mp hy
      have qn := List.mem_range.mp hq
      simp only [Int.toNat_natCast]
      show (if eqB (st L o q).1 w_look = true then _ else _) = _
      unfold se1
      by_cases e : eqB (st L o q).1 w_look = true
      · rw [if_pos e, if_pos e, sight_ok h hl on qn]
        simp only [RR.bnd_ok]
        exact app1 (M := 1000) ha2 (by decide)
      · rw [if_neg e, if_neg e, List.append_nil]
    · intro y hy
      exact se1_len
    · simp; omega
  · intro x hx
    obtain ⟨o, ho, rfl⟩ := List.mem_map.mp hx
    simp only [Int.toNat_natCast]
    exact sek_len h (List.mem_range.mp ho)
  · simp; omega
/-! the arrows of a look -/
def isSh (L : Lot) (lv : List W) (c : List Int) (k p o : Nat) : Bool := match sgt L lv c k p with
  | some x => decide (la c o ≤ la c x)
  | none => false
def lkA (L : Lot) (lv : List W) (c : List Int) (k p : Nat) : List Arr := (mks L k (st L k p).2).map fun o => if isSh L lv c k p o = true then (ci o, ci k, w_shown) else (ci k, ci o, w_missed)
theorem sgt_lt {x : Nat} (e : sgt L lv c k p = some x) : x < L.length := by
  have := sg_is c (cnd L lv c k p)
  unfold sgt at e
  rw [e] at this
  exact (cnd_mem.mp this.1).1.1
theorem look_ok (h : Okc L c) (hk : k < L.length) (hp : p < (dd L k).length) : n_look_arrows L (timT L.length c) (ci k, ci p, (sgt L lv c k p).map ci) = .ok (lkA L lv c k p) := by
  have n5 := h.n5
  unfold n_look_arrows
  have f3 := lot_get (L := L) hk
  have f4 := st_get (L := L) hp
  simp only [f3, f4, RR.ofO_some, RR.bnd_ok]
  rw [markers_ok n5, RR.bnd_ok]
  rw [foldR_acc (f := fun x => [if isSh L lv c k p x.toNat = true then (x, ci k, w_shown) else (ci k, x, w_missed)]) (B := 1) (M := 1000)]
  · rw [RR.bnd_ok, RR.san_ok, List.nil_append]
    unfold lkA
    rw [List.flatMap_map]
    congr 1
    induction (mks L k (st L k p).2) with
    | nil => rfl
    | cons o l ih => rw [List.flatMap_cons, ih]; rfl
  · intro x hx acc ha
    obtain ⟨o, ho, rfl⟩ := List.mem_map.mp hx
    have on := (mks_mem.mp ho).1
    have g1 := tim_get (n := L.length) (c := c) on
    have g3 := h.last on
    have a1 : ∀ x : Arr, (if acc.length < sizeLine then RR.ok (acc ++ [x]) else .stuck) = .ok (acc ++ [x]) := fun x => app1 (M := 1000) ha (by decide)
    simp only [a1, Int.toNat_natCast]
    unfold isSh
    cases e : sgt L lv c k p with
    | none => simp
    | some x =>
      have xn := sgt_lt e
      have q1 := tim_get (n := L.length) (c := c) xn
      have q3 := h.last xn
      simp only [Option.map_some, Option.isSome_some, RR.bnd_ok, if_true, g1, g3, RR.ofO_some, unO_some, q1, q3]
      by_cases e4 : la c o ≤ la c x <;> simp [e4]
  · intros; simp
  · have := mks_len L k (st L k p).2
    simp; omega
theorem lkA_len (h : L.length ≤ 5) : (lkA L lv c k p).length ≤ 5 := by
  unfold lkA; rw [List.length_map]; exact Nat.le_trans (mks_len _ _ _) h
/-! all arrows -/
def lkS (L : Lot) (lv : List W) (c : List Int) (t : Int × Int × Option Int) : List Arr := lkA L lv c t.1.toNat t.2.1.toNat
def allA (L : Lot) (lv : List W) (c : List Int) : List Arr := ovs L c ++ (ses L lv c).flatMap (lkS L lv c)
def prA (L : Lot) (lv : List W) (c : List Int) : List Arr := sortR (ltP ltI (ltP ltI ltS)) ((allA L lv c).foldl addK [])
theorem ses_mem {t : Int × Int × Option Int} : t ∈ ses L lv c ↔ ∃ k p, k < L.length ∧ p < (dd L k).length ∧ (st L k p).1 = w_look ∧ t = (ci k, ci p, (sgt L lv c k p).map ci) := by
  unfold ses sek se1
  simp only [List.mem_flatMap, List.mem_range]
  constructor
  · rintro ⟨k, hk, p, hp, ht⟩
    split at ht
    · rename_i e
      exact ⟨k, p, hk, hp, by simpa using e, by simpa using ht⟩
    · cases ht
  · rintro ⟨k, p, hk, hp, e, rfl⟩
    exact ⟨k, hk, p, hp, by rw [if_pos (by simpa using e)]; simp⟩
theorem ovs_len (h : Okc L c) : (ovs L c).length ≤ 125 := by
  have h1 := flat_len (f := ovk L c) (B := 25) (List.range L.length) fun k hk => ovk_len h (List.mem_range.mp hk)
  have h3 := h.n5
  rw [List.length_range] at h1
  unfold ovs; omega
theorem arrows_in_ok (h : Okc L c) (hl : lv.length = L.length) : n_arrows_in L lv (timT L.length c) = .ok (prA L lv c) := by
  have n5 := h.n5
  have o1 := ovs_len h
  have o2 := ses_len (lv := lv) h
  unfold n_arrows_in
  rw [over_ok h, RR.nox_ok, RR.bnd_ok, seen_ok h hl, RR.bnd_ok]
  rw [foldR_acc (f := lkS L lv c) (B := 5) (M := 1000)]
  · rw [RR.bnd_ok]
    have hA : (ovs L c ++ (ses L lv c).flatMap (lkS L lv c)).length ≤ 250 := by
      have h1 := flat_len (f := lkS L lv c) (B := 5) (ses L lv c) fun t _ => lkA_len n5
      rw [List.length_append]; omega
    rw [RR.bnd_ok, duR_eq (f := fun v : Arr => RR.ok v) (f' := fun v => v) (ovs L c ++ (ses L lv c).flatMap (lkS L lv c)) [] (fun _ _ => rfl) (by
      rw [List.length_nil, Nat.zero_add]; exact Nat.le_trans hA (by decide)), RR.bnd_ok, List.map_id']
    have hN := nub_len (ovs L c ++ (ses L lv c).flatMap (lkS L lv c)) []
    rw [List.length_nil, Nat.zero_add] at hN
    rw [fitR_ok (by omega), RR.bnd_ok]
    unfold sortF
    rw [if_pos (Nat.le_trans hN (Nat.le_trans hA (by decide)))]
    rfl
  · intro t ht acc ha
    obtain ⟨k, p, hk, hp, e, rfl⟩ := ses_mem.mp ht
    rw [look_ok h hk hp, RR.bnd_ok]
    have : lkS L lv c (ci k, ci p, (sgt L lv c k p).map ci) = lkA L lv c k p := rfl
    rw [this]
    exact appN (M := 1000) (by have := lkA_len (lv := lv) (c := c) (k := k) (p := p) n5; omega) (by decide)
  · intro t _; exact lkA_len n5
  · omega
end
end MS

end

section
/-! Arrows, by the law; they are the program's. -/
namespace MS
open PySem PySem.Spec PyProof.Rows L2 MX
section
variable {L : Lot} {lv : List W} {c : List Int} {i j k p : Nat}
def lks (L : Lot) (k : Nat) : List Nat := (List.range (dd L k).length).filter fun p => eqB (st L k p).1 w_look
theorem lks_mem : p ∈ lks L k ↔ p < (dd L k).length ∧ (st L k p).1 = w_look := by
  unfold lks; rw [List.mem_filter, List.mem_range]; simp
theorem looks_ok (h : (dd L k).length ≤ 5) : n_l_looks (dd L k) = .ok ((lks L k).map ci) := by
  unfold n_l_looks
  rw [rng1_ok (by omega), RR.bnd_ok]
  rw [lcR_eq (p' := fun x : Int => eqB (st L k x.toNat).1 w_look) (f' := fun x : Int => x)]
  · rw [show ((List.range (dd L k).length).map fun i : Nat => (i : Int)) = (List.range (dd L k).length).map ci from rfl, filter_ci, List.map_id', RR.bnd_ok]
    have : (lks L k).length ≤ 5 := Nat.le_trans (List.length_filter_le _ _) (by simp; omega)
    exact congrArg RR.san (fitR_ok (by rw [List.length_map]; show (lks L k).length ≤ _; omega))
  · intro x hx
    obtain ⟨o, ho, rfl⟩ := List.mem_map.mp hx
    simp only [st_get (L := L) (List.mem_range.mp ho), RR.ofO_some, RR.bnd_ok, Int.toNat_natCast]
  · intros; rfl
def ovB (L : Lot) (c : List Int) (i j : Nat) : Bool := ((ths (dd L i)).any fun w => inB (w_mark, w) (dd L j)) && decide (la c i < la c j)
def shB (L : Lot) (lv : List W) (c : List Int) (i j : Nat) : Bool := (lks L j).any fun p => inB (w_mark, (st L j p).2) (dd L i) && isSh L lv c j p i
def miB (L : Lot) (lv : List W) (c : List Int) (i j : Nat) : Bool := (lks L i).any fun p => inB (w_mark, (st L i p).2) (dd L j) && !isSh L lv c i p j
theorem filter_any {α β : Type} {l : List α} {p : α → Bool} {f : α → β} [DecidableEq β] : (!eqB ((l.filter p).map f) []) = l.any p := by
  rw [Bool.eq_iff_iff, List.any_eq_true]
  simp only [Bool.not_eq_true', eqB_iff', List.map_eq_nil_iff, List.filter_eq_nil_iff]
  constructor
  · intro h
    refine Classical.byContradiction fun z => h fun a ha hp => z ⟨a, ha, hp⟩
  · rintro ⟨a, ha, hp⟩ h
    exact h a ha hp
theorem l_over_ok (h : Okc L c) (hi : i < L.length) (hj : j < L.length) : n_l_is_over L (timT L.length c) (i : Int) (j : Int) = .ok (ovB L c i j) := by
  have hd := h.dl hi
  unfold n_l_is_over
  rw [lot_get hi, RR.ofO_some, RR.bnd_ok]
  rw [lcR_eq (p' := fun s : W × W => eqB s.1 w_mark && inB (w_mark, s.2) (dd L j)) (f' := fun s : W × W => s.2)]
  · rw [RR.bnd_ok, fitR_ok (by
      rw [List.length_map]
      exact Nat.le_trans (List.length_filter_le _ _) (by omega)), RR.bnd_ok, filter_any, RR.bnd_ok]
    have e : ((ths (dd L i)).any fun w => inB (w_mark, w) (dd L j)) = (dd L i).any fun s => eqB s.1 w_mark && inB (w_mark, s.2) (dd L j) := by
      unfold ths
      rw [List.any_map, List.any_filter]; rfl
    unfold ovB
    rw [e]
    cases (dd L i).any fun s => eqB s.1 w_mark && inB (w_mark, s.2) (dd L j) with
    | false => rfl
    | true => simp [tim_get (n := L.length) (c := c) hi, tim_get (n := L.length) (c := c) hj, h.last hi, h.last hj]
  · intro s _
    by_cases e : s.1 = w_mark
    · simp [e, lot_get hj, n_l_marks]
    · simp [e, eqB]
  · intros; rfl
theorem isSh_some {x : Nat} {o : Nat} (e : sgt L lv c k p = some x) : isSh L lv c k p o = decide (la c o ≤ la c x) := by unfold isSh; rw [e]
theorem isSh_none {o : Nat} (e : sgt L lv c k p = none) : isSh L lv c k p o = false := by unfold isSh; rw [e]
theorem l_shown_ok (h : Okc L c) (hl : lv.length = L.length) (hi : i < L.length) (hj : j < L.length) : n_l_is_shown L lv (timT L.length c) (i : Int) (j : Int) = .ok (shB L lv c i j) := by
  unfold n_l_is_shown
  rw [lot_get hj, RR.ofO_some, RR.bnd_ok, looks_ok (h.dl hj), RR.bnd_ok]
  rw [forR_any (p := fun x : Int => inB (w_mark, (st L j x.toNat).2) (dd L i) && isSh L lv c j x.toNat i) (v := true)]
  · rw [List.any_map]
    show RR.san (RR.bnd (.ok (if shB L lv c i j = true then Rz.rt true else Rz.nx ())) _) = _
    cases shB L lv c i j <;> rfl
  · intro x hx
    obtain ⟨q, hq, rfl⟩ := List.mem_map.mp hx
    obtain ⟨qn, _⟩ := lks_mem.mp hq
    simp only [Int.toNat_natCast, lot_get hi, RR.ofO_some, RR.bnd_ok, st_get (L := L) qn, n_l_marks, RR.san_ok]
    by_cases e : inB (w_mark, (st L j q).2) (dd L i) = true
    · simp only [e, if_true, Bool.true_and]
      rw [l_sight_ok h hl hj qn, RR.bnd_ok]
      cases es : sgt L lv c j q with
      | none => simp [isSh_none es]
      | some x =>
        have xn := sgt_lt es
        have q1 := tim_get (n := L.length) (c := c) xn
        have q3 := h.last xn
        have q5 := tim_get (n := L.length) (c := c) hi
        have q6 := h.last hi
        simp only [isSh_some es, Option.map_some, Option.isSome_some, RR.bnd_ok, if_true, RR.ofO_some, unO_some, q1, q3, q5, q6]
        by_cases e4 : la c i ≤ la c x <;> simp [e4]
    · simp only [Bool.not_eq_true] at e
      simp [e]
theorem l_missed_ok (h : Okc L c) (hl : lv.length = L.length) (hi : i < L.length) (hj : j < L.length) : n_l_is_missed L lv (timT L.length c) (i : Int) (j : Int) = .ok (miB L lv c i j) := by
  unfold n_l_is_missed
  rw [lot_get hi, RR.ofO_some, RR.bnd_ok, looks_ok (h.dl hi), RR.bnd_ok]
  rw [forR_any (p := fun x : Int => inB (w_mark, (st L i x.toNat).2) (dd L j) && !isSh L lv c i x.toNat j) (v := true)]
  · rw [List.any_map]
    show RR.san (RR.bnd (.ok (if miB L lv c i j = true then Rz.rt true else Rz.nx ())) _) = _
    cases miB L lv c i j <;> rfl
  · intro x hx
    obtain ⟨q, hq, rfl⟩ := List.mem_map.mp hx
    obtain ⟨qn, _⟩ := lks_mem.mp hq
    simp only [Int.toNat_natCast, lot_get hj, RR.ofO_some, RR.bnd_ok, st_get (L := L) qn, n_l_marks, RR.san_ok]
    by_cases e : inB (w_mark, (st L i q).2) (dd L j) = true
    · simp only [e, if_true, Bool.true_and]
      rw [l_sight_ok h hl hi qn, RR.bnd_ok]
      cases es : sgt L lv c i q with
      | none => simp [isSh_none es]
      | some x =>
        have xn := sgt_lt es
        have q1 := tim_get (n := L.length) (c := c) xn
        have q3 := h.last xn
        have q5 := tim_get (n := L.length) (c := c) hj
        have q6 := h.last hj
        simp only [isSh_some es, Option.map_some, Option.isNone_some, RR.bnd_ok, Bool.false_eq_true, if_false, RR.ofO_some, unO_some, q1, q3, q5, q6]
        by_cases e4 : la c x < la c j
        · have : ¬ la c j ≤ la c x := by omega
          simp [e4, this]
        · have : la c j ≤ la c x := by omega
          simp [e4, this]
    · simp only [Bool.not_eq_true] at e
      simp [e]
/-! the law's list -/
def blk (L : Lot) (lv : List W) (c : List Int) (i j : Nat) : List Arr := (if miB L lv c i j = true then [(ci i, ci j, w_missed)] else []) ++ ((if ovB L c i j = true then [(ci i, ci j, w_over)] else []) ++ (if shB L lv c i j = true then [(ci i, ci j, w_shown)] else []))
def row (L : Lot) (lv : List W) (c : List Int) (i : Nat) : List Arr := ((List.range L.length).filter fun j => !decide (j = i)).flatMap (blk L lv c i)
def lawA (L : Lot) (lv : List W) (c : List Int) : List Arr := (List.range L.length).flatMap (row L lv c)
theorem blk_len : (blk L lv c i j).length ≤ 3 := by
  unfold blk
  rw [List.length_append, List.length_append]
  have h1 : (if miB L lv c i j = true then [((ci i, ci j, w_missed) : Arr)] else []).length ≤ 1 := by split <;> simp
  have h2 : (if ovB L c i j = true then [((ci i, ci j, w_over) : Arr)] else []).length ≤ 1 := by split <;> simp
  have h3 : (if shB L lv c i j = true then [((ci i, ci j, w_shown) : Arr)] else []).length ≤ 1 := by split <;> simp
  omega
theorem row_len' (h : L.length ≤ 5) : (row L lv c i).length ≤ 15 := by
  have h1 := flat_len (f := blk L lv c i) (B := 3) ((List.range L.length).filter fun j => !decide (j = i)) fun j _ => blk_len
  have h2 : ((List.range L.length).filter fun j => !decide (j = i)).length ≤ L.length := Nat.le_trans (List.length_filter_le _ _) (by simp)
  unfold row; omega
theorem l_arrows_ok (h : Okc L c) (hl : lv.length = L.length) : n_l_arrows L lv (timT L.length c) = .ok (lawA L lv c) := by
  have n5 := h.n5
  unfold n_l_arrows
  rw [rng1_ok (by omega), RR.bnd_ok]
  rw [foldR_acc (f := fun x : Int => row L lv c x.toNat) (B := 15) (M := 1000)]
  · rw [RR.bnd_ok, RR.san_ok, List.nil_append, List.flatMap_map]
    rfl
  · intro x hx acc ha
    obtain ⟨i, hi, rfl⟩ := List.mem_map.mp hx
    have hi' := List.mem_range.mp hi
    rw [RR.bnd_ok]
    have ef : (List.filter (fun v6 : Int => !eqB v6 (i : Int)) ((List.range L.length).map fun i : Nat => (i : Int))) = ((List.range L.length).filter fun j => !decide (j = i)).map ci := by
      rw [show ((List.range L.length).map fun i : Nat => (i : Int)) = (List.range L.length).map ci from rfl, filter_ci]
      congr 1
      refine List.filter_congr fun j _ => ?_
      congr 1
      unfold eqB ci
      exact decide_eq_decide.mpr ⟨fun q => by omega, fun q => by omega⟩
    have h2 : ((List.range L.length).filter fun j => !decide (j = i)).length ≤ L.length := Nat.le_trans (List.length_filter_le _ _) (by simp)
    rw [List.map_id', ef, fitR_ok (by rw [List.length_map]; omega), RR.bnd_ok]
    rw [foldR_acc (f := fun x : Int => blk L lv c i x.toNat) (B := 3) (M := 1000)]
    · rw [RR.bnd_ok, List.flatMap_map, Int.toNat_natCast]; rfl
    · intro y hy acc2 ha2
      obtain ⟨j, hj, rfl⟩ := List.mem_map.mp hy
      have hj' := List.mem_range.mp (List.mem_filter.mp hj).1
      have a1 : ∀ (z : List Arr) (x : Arr), z.length ≤ acc2.length + 2 → (∀ r : RR (List Arr), (if z.length < sizeLine then r else .stuck) = r) := fun z x hz r => if_pos (Nat.lt_of_lt_of_le (show z.length < 1001 by omega) (by decide))
      have b0 := a1 acc2 (0, 0, w_over) (by omega)
      have b1 : ∀ x : Arr, ∀ r : RR (List Arr), (if (acc2 ++ [x]).length < sizeLine then r else .stuck) = r := fun x => a1 _ x (by simp)
      have b2 : ∀ x y : Arr, ∀ r : RR (List Arr), (if ((acc2 ++ [x]) ++ [y]).length < sizeLine then r else .stuck) = r := fun x y => a1 _ x (by simp)
      rw [l_missed_ok h hl hi' hj', RR.bnd_ok]
      simp only [l_over_ok h hi' hj', l_shown_ok h hl hi' hj', RR.bnd_ok, b0, b1, b2, Int.toNat_natCast]
      unfold blk
      cases miB L lv c i j <;> cases ovB L c i j <;> cases shB L lv c i j <;> simp
    · intros; exact blk_len
    · rw [List.length_map]; omega
  · intros; exact row_len' n5
  · simp; omega
theorem blk_mem {x : Arr} : x ∈ blk L lv c i j ↔ (x = (ci i, ci j, w_missed) ∧ miB L lv c i j = true) ∨ (x = (ci i, ci j, w_over) ∧ ovB L c i j = true) ∨ (x = (ci i, ci j, w_shown) ∧ shB L lv c i j = true) := by
  unfold blk
  simp only [List.mem_append]
  cases miB L lv c i j <;> cases ovB L c i j <;> cases shB L lv c i j <;> simp
theorem lawA_mem {x : Arr} : x ∈ lawA L lv c ↔ ∃ i j, i < L.length ∧ j < L.length ∧ j ≠ i ∧ x ∈ blk L lv c i j := by
  unfold lawA row
  simp only [List.mem_flatMap, List.mem_range, List.mem_filter]
  constructor
  · rintro ⟨i, hi, j, ⟨hj, hn⟩, hx⟩
    exact ⟨i, j, hi, hj, by simpa using hn, hx⟩
  · rintro ⟨i, j, hi, hj, hn, hx⟩
    exact ⟨i, hi, j, ⟨hj, by simpa using hn⟩, hx⟩
abbrev lt3 : Arr → Arr → Bool := ltP ltI (ltP ltI ltS)
theorem lt3_1 {a b d e : Int} {w v : W} (h : a < d) : lt3 (a, b, w) (d, e, v) = true := by
  unfold lt3 ltP ltI
  rw [if_neg (show ¬ a = d by omega)]
  simpa using h
theorem lt3_2 {a b e : Int} {w v : W} (h : b < e) : lt3 (a, b, w) (a, e, v) = true := by
  unfold lt3 ltP ltI
  rw [if_pos rfl]
  show (if b = e then _ else decide (b < e)) = true
  rw [if_neg (by omega)]; simpa using h
theorem lt3_3 {a b : Int} {w v : W} (h : ltS w v = true) : lt3 (a, b, w) (a, b, v) = true := by
  unfold lt3 ltP
  rw [if_pos rfl]
  show (if b = b then _ else _) = true
  rw [if_pos rfl]; exact h
theorem blk_srt : (blk L lv c i j).Pairwise fun a b => lt3 a b = true := by
  have h1 : ltS w_missed w_over = true := by decide +kernel
  have h2 : ltS w_missed w_shown = true := by decide +kernel
  have h3 : ltS w_over w_shown = true := by decide +kernel
  unfold blk
  cases miB L lv c i j <;> cases ovB L c i j <;> cases shB L lv c i j <;> simp [lt3_3 h1, lt3_3 h2, lt3_3 h3]
theorem lawA_srt : (lawA L lv c).Pairwise fun a b => lt3 a b = true := by
  unfold lawA
  rw [List.pairwise_flatMap]
  refine ⟨fun i _ => ?_, (List.pairwise_lt_range).imp fun {a b} hab x hx y hy => ?_⟩
  · unfold row
    rw [List.pairwise_flatMap]
    refine ⟨fun j _ => blk_srt, ((List.pairwise_lt_range).filter _).imp fun {a b} hab x hx y hy => ?_⟩
    have : ci a < ci b := by unfold ci; omega
    rcases blk_mem.mp hx with ⟨rfl, _⟩ | ⟨rfl, _⟩ | ⟨rfl, _⟩ <;> rcases blk_mem.mp hy with ⟨rfl, _⟩ | ⟨rfl, _⟩ | ⟨rfl, _⟩ <;> exact lt3_2 this
  · unfold row at hx hy
    obtain ⟨j, _, hx⟩ := List.mem_flatMap.mp hx
    obtain ⟨k, _, hy⟩ := List.mem_flatMap.mp hy
    have : ci a < ci b := by unfold ci; omega
    rcases blk_mem.mp hx with ⟨rfl, _⟩ | ⟨rfl, _⟩ | ⟨rfl, _⟩ <;> rcases blk_mem.mp hy with ⟨rfl, _⟩ | ⟨rfl, _⟩ | ⟨rfl, _⟩ <;> exact lt3_1 this
theorem ovs_mem {x : Arr} : x ∈ ovs L c ↔ ∃ i j, i < L.length ∧ j < L.length ∧ j ≠ i ∧ x = (ci i, ci j, w_over) ∧ ovB L c i j = true := by
  unfold ovs ovk ov1
  simp only [List.mem_flatMap, List.mem_range, List.mem_map, List.mem_filter, mks_mem, decide_eq_true_eq]
  constructor
  · rintro ⟨i, hi, w, hw, j, ⟨⟨hj, hn, hm⟩, hlt⟩, rfl⟩
    refine ⟨i, j, hi, hj, hn, rfl, ?_⟩
    unfold ovB
    simp only [Bool.and_eq_true, decide_eq_true_eq, List.any_eq_true, inB_iff]
    exact ⟨⟨w, hw, hm⟩, hlt⟩
  · rintro ⟨i, j, hi, hj, hn, rfl, hb⟩
    unfold ovB at hb
    simp only [Bool.and_eq_true, decide_eq_true_eq, List.any_eq_true, inB_iff] at hb
    obtain ⟨⟨w, hw, hm⟩, hlt⟩ := hb
    exact ⟨i, hi, w, hw, j, ⟨⟨hj, hn, hm⟩, hlt⟩, rfl⟩
theorem all_mem {x : Arr} : x ∈ allA L lv c ↔ x ∈ lawA L lv c := by
  unfold allA
  rw [List.mem_append, ovs_mem, lawA_mem, List.mem_flatMap]
  constructor
  · rintro (⟨i, j, hi, hj, hn, rfl, hb⟩ | ⟨t, ht, hx⟩)
    · exact ⟨i, j, hi, hj, hn, blk_mem.mpr (.inr (.inl ⟨rfl, hb⟩))⟩
    · obtain ⟨k, p, hk, hp, e, rfl⟩ := ses_mem.mp ht
      have hx' : x ∈ lkA L lv c k p := hx
      unfold lkA at hx'
      obtain ⟨o, ho, rfl⟩ := List.mem_map.mp hx'
      obtain ⟨on, ok, om⟩ := mks_mem.mp ho
      by_cases hs : isSh L lv c k p o = true
      · rw [if_pos hs]
        refine ⟨o, k, on, hk, fun z => ok z.symm, blk_mem.mpr (.inr (.inr ⟨rfl, ?_⟩))⟩
        unfold shB
        rw [List.any_eq_true]
        exact ⟨p, lks_mem.mpr ⟨hp, e⟩, by rw [Bool.and_eq_true]; exact ⟨by simpa using om, hs⟩⟩
      · rw [if_neg hs]
        refine ⟨k, o, hk, on, ok, blk_mem.mpr (.inl ⟨rfl, ?_⟩)⟩
        unfold miB
        rw [List.any_eq_true]
        exact ⟨p, lks_mem.mpr ⟨hp, e⟩, by rw [Bool.and_eq_true]; exact ⟨by simpa using om, by simpa using hs⟩⟩
  · rintro ⟨i, j, hi, hj, hn, hx⟩
    rcases blk_mem.mp hx with ⟨rfl, hb⟩ | ⟨rfl, hb⟩ | ⟨rfl, hb⟩
    · right
      unfold miB at hb
      obtain ⟨p, hp, hb⟩ := List.any_eq_true.mp hb
      rw [Bool.and_eq_true] at hb
      obtain ⟨hp1, hp2⟩ := lks_mem.mp hp
      refine ⟨_, ses_mem.mpr ⟨i, p, hi, hp1, hp2, rfl⟩, ?_⟩
      show _ ∈ lkA L lv c i p
      unfold lkA
      refine List.mem_map.mpr ⟨j, mks_mem.mpr ⟨hj, hn, by simpa using hb.1⟩, ?_⟩
      rw [if_neg (by have := hb.2; simpa using this)]
    · exact .inl ⟨i, j, hi, hj, hn, rfl, hb⟩
    · right
      unfold shB at hb
      obtain ⟨p, hp, hb⟩ := List.any_eq_true.mp hb
      rw [Bool.and_eq_true] at hb
      obtain ⟨hp1, hp2⟩ := lks_mem.mp hp
      refine ⟨_, ses_mem.mpr ⟨j, p, hj, hp1, hp2, rfl⟩, ?_⟩
      show _ ∈ lkA L lv c j p
      unfold lkA
      refine List.mem_map.mpr ⟨i, mks_mem.mpr ⟨hi, fun z => hn z.symm, by simpa using hb.1⟩, ?_⟩
      rw [if_pos hb.2]
/-- the program's arrows are the law's -/
theorem arrows_same : prA L lv c = lawA L lv c := by
  unfold prA
  refine same_sorted (eT3 eI eI eS) (nub_nodup _ _ (by simp)) lawA_srt fun x => ?_
  rw [nub_mem, all_mem]; simp
end
end MS

end

section
/-! repr of what is small; the whole program's answer. -/
namespace MS
open PySem PySem.Spec PyProof.Rows L2 MX
structure SD (v : PV) (d w : Nat) : Prop where
  s : sm v = true
  d : dp v ≤ d
  w : wt v ≤ w
theorem SD.mono {v : PV} {d w d' w' : Nat} (h : SD v d w) (hd : d ≤ d') (hw : w ≤ w') : SD v d' w' := ⟨h.s, Nat.le_trans h.d hd, Nat.le_trans h.w hw⟩
theorem sd_i {i : Int} (h : i.natAbs < 10 ^ 18) : SD (eI i) 0 20 := ⟨by simpa [eI, sm] using h, Nat.le_refl _, Nat.le_refl _⟩
theorem sd_s {x : W} {n : Nat} (h : x.1.length ≤ n) : SD (eS x) 0 (10 * n + 2) := ⟨by simpa [eS, sm] using x.2, Nat.le_refl _, by simp only [eS, wt]; omega⟩
theorem sd_n : SD .non 0 4 := ⟨rfl, Nat.le_refl _, Nat.le_refl _⟩
theorem sd_b {b : Bool} : SD (eB b) 0 5 := ⟨rfl, Nat.le_refl _, Nat.le_refl _⟩
theorem sd_v {α : Type} {e : α → PV} {l : List α} {d w n : Nat} (h : ∀ a ∈ l, SD (e a) d w) (hn : l.length ≤ n) : SD (eV e l) (d + 1) (n * (w + 2) + 3) := by
  refine ⟨sms_map fun a ha => (h a ha).s, ?_, ?_⟩
  · have := dps_map (f := e) (n := d) (l := l) fun a ha => (h a ha).d
    simp only [eV, dp]; omega
  · have := wts_map (f := e) (n := w) (l := l) fun a ha => (h a ha).w
    have h2 := Nat.mul_le_mul_right (w + 2) hn
    simp only [eV, wt]; omega
theorem sd_l {α : Type} {e : α → PV} {l : List α} {d w n : Nat} (h : ∀ a ∈ l, SD (e a) d w) (hn : l.length ≤ n) : SD (eL e l) (d + 1) (n * (w + 2) + 3) := by
  refine ⟨sms_map fun a ha => (h a ha).s, ?_, ?_⟩
  · have := dps_map (f := e) (n := d) (l := l) fun a ha => (h a ha).d
    simp only [eL, dp]; omega
  · have := wts_map (f := e) (n := w) (l := l) fun a ha => (h a ha).w
    have h2 := Nat.mul_le_mul_right (w + 2) hn
    simp only [eL, wt]; omega
theorem sd_t2 {α β : Type} {e1 : α → PV} {e2 : β → PV} {p : α × β} {d w : Nat} (h1 : SD (e1 p.1) d w) (h2 : SD (e2 p.2) d w) : SD (eT2 e1 e2 p) (d + 1) (2 * w + 7) := by
  obtain ⟨a1, a2, a3⟩ := h1
  obtain ⟨b1, b2, b3⟩ := h2
  refine ⟨by simp [eT2, sm, sms, a1, b1], ?_, ?_⟩
  · simp only [eT2, dp, dps]; omega
  · simp only [eT2, wt, wts]; omega
theorem sd_t3 {α β γ : Type} {e1 : α → PV} {e2 : β → PV} {e3 : γ → PV} {p : α × β × γ} {d w : Nat} (h1 : SD (e1 p.1) d w) (h2 : SD (e2 p.2.1) d w) (h3 : SD (e3 p.2.2) d w) : SD (eT3 e1 e2 e3 p) (d + 1) (3 * w + 9) := by
  obtain ⟨a1, a2, a3⟩ := h1
  obtain ⟨b1, b2, b3⟩ := h2
  obtain ⟨c1, c2, c3⟩ := h3
  refine ⟨by simp [eT3, sm, sms, a1, b1, c1], ?_, ?_⟩
  · simp only [eT3, dp, dps]; omega
  · simp only [eT3, wt, wts]; omega
theorem repr_sd {v : PV} {d w : Nat} (h : SD v d w) (hd : d ≤ 64) (hw : w ≤ 1000000) : ∃ r, reprP v = .ok r := by
  have e := vRepr_sm (S := []) h.s (Nat.le_trans h.d hd) (Nat.le_trans h.w (Nat.le_trans hw (by decide)))
  refine ⟨(dt v).shown, ?_⟩
  cases v with
  | ref n => have := h.s; simp [sm] at this
  | _ => simp only [reprP, e]
structure AllOk (L : Lot) (lv : List W) (c : List Int) : Prop extends Okc L c where
  lvl : lv.length = L.length
  need : n_need_all L lv c = .ok ()
  wl : ∀ d ∈ L, ∀ s ∈ d, s.1.1.length ≤ 7 ∧ s.2.1.length ≤ 7
  ll : ∀ x ∈ lv, x.1.length ≤ 7
section
variable {L : Lot} {lv : List W} {c : List Int}
theorem sd_lot (h : AllOk L lv c) : SD (eV (eV (eT2 eS eS)) L) 3 5000 :=
  (sd_v (fun d hd => sd_v (fun s hs => sd_t2 (sd_s (h.wl d hd s hs).1) (sd_s (h.wl d hd s hs).2)) (h.d5 d hd)) h.n5).mono (by decide) (by decide)
theorem sd_lvs (h : AllOk L lv c) : SD (eV eS lv) 3 5000 := (sd_v (fun x hx => sd_s (h.ll x hx)) (Nat.le_trans (Nat.le_of_eq h.lvl) h.n5)).mono (by decide) (by decide)
theorem sd_run (h : AllOk L lv c) : SD (eV eI c) 3 5000 := (sd_v (fun x hx => sd_i (by
  have := h.cr x hx
  have := h.n5
  have : x.natAbs < 6 := by omega
  exact Nat.lt_trans this (by decide))) h.cl).mono (by decide) (by decide)
theorem repr_in (h : AllOk L lv c) : ∃ r, reprR (eL eP) [((eV (eV (eT2 eS eS))) L), ((eV eS) lv), ((eV eI) c)] = .ok r :=
  repr_sd (sd_l (n := 3) (e := eP) (d := 3) (w := 5000) (fun a ha => by
    rcases List.mem_cons.mp ha with rfl | ha
    · exact sd_lot h
    · rcases List.mem_cons.mp ha with rfl | ha
      · exact sd_lvs h
      · rw [List.mem_singleton.mp ha]; exact sd_run h) (by simp)) (by decide) (by decide)
theorem arrows_ok (h : AllOk L lv c) : n_arrows L lv c = .ok (prA L lv c) := by
  unfold n_arrows
  rw [h.need, RR.bnd_ok, RR.bnd_ok, RR.bnd_ok, times_ok h.toOkc, RR.bnd_ok, arrows_in_ok h.toOkc h.lvl]; rfl
theorem sd_arrows (h : Okc L c) : SD (eV (eT3 eI eI eS) (lawA L lv c)) 3 20000 := by
  have n5 := h.n5
  have hl : (lawA L lv c).length ≤ 75 := by
    have h1 := flat_len (f := row L lv c) (B := 15) (List.range L.length) fun k hk => row_len' n5
    rw [List.length_range] at h1
    unfold lawA; omega
  refine (sd_v (n := 75) (d := 1) (w := 255) (fun x hx => ?_) hl).mono (by decide) (by decide)
  obtain ⟨i, j, hi, hj, hn, hx⟩ := lawA_mem.mp hx
  have b1 : (ci i).natAbs < 10 ^ 18 := Nat.lt_trans (show (ci i).natAbs < 6 by unfold ci; omega) (by decide)
  have b2 : (ci j).natAbs < 10 ^ 18 := Nat.lt_trans (show (ci j).natAbs < 6 by unfold ci; omega) (by decide)
  have t : ∀ w : W, w.1.length ≤ 8 → SD (eT3 eI eI eS (ci i, ci j, w)) 1 255 := fun w hw => (sd_t3 (d := 0) (w := 82) ((sd_i b1).mono (by decide) (by decide)) ((sd_i b2).mono (by decide) (by decide)) ((sd_s hw).mono (by decide) (by decide))).mono (by decide) (by decide)
  rcases blk_mem.mp hx with ⟨rfl, _⟩ | ⟨rfl, _⟩ | ⟨rfl, _⟩
  · exact t _ (by decide +kernel)
  · exact t _ (by decide +kernel)
  · exact t _ (by decide +kernel)
theorem repr_two {α : Type} {e : α → PV} {x : α} {d w : Nat} (h : SD (e x) d w) (hd : d ≤ 60) (hw : w ≤ 400000) : ∃ r, reprR (eL e) [x, x] = .ok r :=
  repr_sd (sd_l (n := 2) (fun a ha => by
    rcases List.mem_cons.mp ha with rfl | ha
    · exact h
    · rw [List.mem_singleton.mp ha]; exact h) (by simp)) (by omega) (by omega)
end
end MS

end

section
/-! Lots, levels, runs of the law are let in. -/
namespace MS
open PySem PySem.Spec PyProof.Rows L2 MX
def ww (s : Str) (h : PyData.strOk s = true := by decide +kernel) : W := ⟨s, h⟩
def words : List W := [ww "a", ww "b", ww "c", ww "d", ww "ab", ww "xy", ww "xyz"]
def isT : RR Bool → Bool
  | .ok true => true
  | _ => false
theorem isT_ok {r : RR Bool} (h : isT r = true) : r = .ok true := by
  unfold isT at h
  split at h
  · rfl
  · cases h
theorem things_all : (words.all fun w => isT (n_is_thing w) && decide (w.1.length ≤ 7)) = true := by decide +kernel
theorem thing_ok {w : W} (h : w ∈ words) : n_is_thing w = .ok true ∧ w.1.length ≤ 7 := by
  have := List.all_eq_true.mp things_all w h
  rw [Bool.and_eq_true, decide_eq_true_eq] at this
  exact ⟨isT_ok this.1, this.2⟩
structure DeOk (d : List (W × W)) : Prop where
  w : ∀ s ∈ d, s.2 ∈ words ∧ (s.1 = w_look ∨ s.1 = w_mark)
  f : ∀ (j : Nat) s, d[j]? = some s → s ∉ d.take j ∧ (s.1 = w_mark ∨ (w_mark, s.2) ∉ d.take j)
structure LoOk (L : Lot) : Prop where
  n1 : 1 ≤ L.length
  n5 : L.length ≤ 5
  de : ∀ d ∈ L, DeOk d ∧ 1 ≤ d.length ∧ d.length ≤ 5
def lvls : List W := [w_late, w_early, w_guarded]
theorem step_ok {s : W × W} (h : s.2 ∈ words ∧ (s.1 = w_look ∨ s.1 = w_mark)) : n_is_step s = .ok true := by
  unfold n_is_step
  have e : inB s.1 [w_look, w_mark] = true := by
    rw [inB_iff]
    rcases h.2 with e | e <;> rw [e] <;> simp
  simp [e, (thing_ok h.1).1, eqB]
theorem cut_take {α : Type} (l : List α) (j : Nat) : cutN l none (some (j : Int)) = l.take j := by
  unfold cutN HT.sIx
  simp only
  by_cases h : j ≤ l.length
  · simp [h]
    rw [if_neg (by omega)]; omega
  · simp
    rw [if_neg (by omega)]; omega
theorem follow_ok {a : List (W × W)} {s : W × W} (h : s.2 ∈ words ∧ (s.1 = w_look ∨ s.1 = w_mark)) (h1 : s ∉ a) (h2 : s.1 = w_mark ∨ (w_mark, s.2) ∉ a) : n_can_follow a s = .ok true := by
  unfold n_can_follow
  rw [step_ok h]
  have e1 : inB s a = false := by rw [inB_iff']; exact h1
  simp only [RR.bnd_ok, Bool.not_true, Bool.false_eq_true, if_false, e1, RR.san_ok]
  congr 1
  rcases h2 with e | e
  · rw [e]; simp
  · simp [e]
theorem wrong_step_ok {d : List (W × W)} (h : DeOk d) : n_wrong_step d = .ok none := by
  unfold n_wrong_step
  rw [forR_none]
  · rfl
  · intro x hx
    rw [enumR (w_look, w_look)] at hx
    obtain ⟨j, hj, rfl⟩ := List.mem_map.mp hx
    have jn := List.mem_range.mp hj
    have hs := List.getElem?_eq_getElem jn
    obtain ⟨f1, f2⟩ := h.f j _ hs
    simp only [cut_take]
    rw [hs, Option.getD_some, follow_ok (h.w _ (List.getElem_mem jn)) f1 f2]
    rfl
theorem wrong_place_ok {L : Lot} (h : LoOk L) : n_wrong_place L = .ok none := by
  unfold n_wrong_place
  have n1 := h.n1
  have n5 := h.n5
  have e1 : decide ((1 : Int) ≤ (L.length : Int)) = true := by rw [decide_eq_true_eq]; omega
  have e2 : decide ((L.length : Int) ≤ (5 : Int)) = true := by rw [decide_eq_true_eq]; omega
  rw [e1, e2, if_neg (by simp), forR_none]
  · rfl
  · intro x hx
    rw [enum_range] at hx
    obtain ⟨j, hj, rfl⟩ := List.mem_map.mp hx
    have jn := List.mem_range.mp hj
    obtain ⟨hd, d1, d5⟩ := h.de _ (List.mem_of_getElem? (dd_get jn))
    have e3 : decide ((1 : Int) ≤ ((dd L j).length : Int)) = true := by rw [decide_eq_true_eq]; omega
    have e4 : decide (((dd L j).length : Int) ≤ (5 : Int)) = true := by rw [decide_eq_true_eq]; omega
    simp only [e3, e4, wrong_step_ok hd, RR.bnd_ok]
    rfl
theorem need_lot_ok {L : Lot} (h : LoOk L) : n_need_lot L = .ok L := by
  unfold n_need_lot
  rw [wrong_place_ok h]; rfl
theorem levels_ok {L : Lot} {lv : List W} (h : LoOk L) (hl : lv.length = L.length) (hv : ∀ x ∈ lv, x ∈ lvls) : n_need_levels L lv = .ok lv := by
  have n5 := h.n5
  unfold n_need_levels n_are_levels
  rw [need_lot_ok h, RR.bnd_ok]
  have e1 : eqB (lv.length : Int) (L.length : Int) = true := by rw [eqB_iff]; omega
  rw [e1, if_neg (by simp), fitR_ok (by rw [List.length_map]; omega), RR.bnd_ok]
  have e2 : (lv.map fun v1 => (true && (inB v1 [w_late, w_early, w_guarded]))).all id = true := by
    rw [List.all_map, List.all_eq_true]
    intro x hx
    have := hv x hx
    unfold lvls at this
    simpa using this
  rw [e2]; rfl
theorem spots_run {L : Lot} (step : Int × Int → List Int → RR (Rz (List Int) (Option Int)))
    (hs : ∀ (x : Int × Int) (l : List Int), 0 ≤ x.2 → x.2 < (L.length : Int) → l.length = L.length → (∃ v, l[x.2.toNat]? = some v ∧ v ≠ 0) → step x l = .ok (.nx (l.set x.2.toNat (((l[x.2.toNat]?).getD 0) - 1)))) :
    ∀ (c : List Int) (i : Nat) (l : List Int), l.length = L.length → (∀ x ∈ c, 0 ≤ x ∧ x < (L.length : Int)) → (∀ k : Nat, k < L.length → l[k]? = some ((c.count (k : Int) : Nat) : Int)) → ∃ r, forR step (enumN i c) l = .ok (.nx r)
  | [], i, l, _, _, _ => ⟨l, rfl⟩
  | x :: c, i, l, hl, hr, hc => by
    obtain ⟨x0, x1⟩ := hr x (by simp)
    have hx : x.toNat < L.length := by omega
    have hk := hc x.toNat hx
    have ex : ((x.toNat : Nat) : Int) = x := by omega
    rw [ex, List.count_cons_self] at hk
    have e := hs ((i : Int), x) l x0 x1 hl ⟨_, hk, by omega⟩
    obtain ⟨r, er⟩ := spots_run step hs c (i + 1) (l.set x.toNat (((l[x.toNat]?).getD 0) - 1)) (by rw [List.length_set]; exact hl) (fun y hy => hr y (by simp [hy])) (fun k hkn => by
      have h0 := hc k hkn
      by_cases hxk : x.toNat = k
      · subst hxk
        rw [List.getElem?_set_self (by omega), hk, ex, Option.getD_some]
        congr 1; omega
      · rw [List.getElem?_set_ne hxk, h0, List.count_cons_of_ne (by omega)])
    refine ⟨r, ?_⟩
    unfold enumN forR
    rw [e]
    exact er
theorem whole_ok {i lo hi : Int} (h1 : lo ≤ i) (h2 : i ≤ hi) : n_is_whole i lo hi = .ok true := by
  unfold n_is_whole
  simp [h1, h2]
theorem need_run_ok {L : Lot} {c : List Int} (h : LoOk L) (hc : Okc L c) (hs : (c.length : Int) = (L.map fun d => (d.length : Int) + 1).sum) : n_need_run L c = .ok c := by
  have n5 := h.n5
  unfold n_need_run
  rw [need_lot_ok h, RR.bnd_ok]
  simp only [RR.bnd_ok, Bool.not_true, Bool.false_eq_true, if_false]
  rw [fitR_ok (by rw [List.length_map]; omega), RR.bnd_ok, RR.bnd_ok]
  have e1 : eqB (c.length : Int) (L.map fun v1 => ((v1.length : Int) + (1 : Int))).sum = true := by rw [eqB_iff]; exact hs
  rw [e1]
  simp only [Bool.not_true, Bool.false_eq_true, if_false]
  unfold n_wrong_spot
  rw [fitR_ok (by rw [List.length_map]; omega), RR.bnd_ok]
  obtain ⟨r, er⟩ := spots_run (L := L) (fun v4 v5 => (RR.bnd (RR.bnd (RR.bnd (n_is_whole v4.2 (0 : Int) ((L.length : Int) - (1 : Int))) fun v6 => .ok (!v6)) fun v10 => if v10 = true then .ok true else (RR.bnd (RR.bnd (.ok v4.2) fun v7 => .ofO (atI v5 v7)) fun v8 => RR.bnd (.ok (0 : Int)) fun v9 => RR.ok (eqB v8 v9))) fun v15 => if v15 = true then .ok (.rt (some v4.1)) else (RR.bnd (.ok v4.2) fun v11 => RR.bnd (RR.ofO (atI v5 v11)) fun v12 => RR.bnd (.ok (1 : Int)) fun v13 => RR.bnd (RR.ofO (ixN v5.length v11)) fun v14 => .ok (.nx (List.set v5 v14 (v12 - v13))))))
    (fun x l x0 x1 hl ⟨v, hv, v0⟩ => by
      have a1 : atI l x.2 = some v := by
        have := atI_nat (l := l) (k := x.2.toNat)
        rw [show ((x.2.toNat : Nat) : Int) = x.2 by omega] at this
        rw [this, hv]
      have a2 : ixN l.length x.2 = some x.2.toNat := by
        unfold ixN
        rw [if_pos x0, if_pos (by omega)]
      simp only [whole_ok x0 (show x.2 ≤ (L.length : Int) - 1 by omega), RR.bnd_ok, Bool.not_true, Bool.false_eq_true, if_false, a1, a2, RR.ofO_some, hv, Option.getD_some]
      rw [if_neg (by simpa using v0)])
    c 0 (L.map fun v2 => ((v2.length : Int) + (1 : Int))) (by simp) hc.cr (fun k hk => by
      rw [List.getElem?_map, dd_get hk, Option.map_some, hc.cnt k hk]; simp)
  rw [if_neg (by simp), RR.bnd_ok, er]
  rfl
theorem all_ok {L : Lot} {lv : List W} {c : List Int} (h : LoOk L) (hc : Okc L c) (hs : (c.length : Int) = (L.map fun d => (d.length : Int) + 1).sum) (hl : lv.length = L.length) (hv : ∀ x ∈ lv, x ∈ lvls) : AllOk L lv c where
  toOkc := hc
  lvl := hl
  need := by
    unfold n_need_all
    rw [levels_ok h hl hv, RR.bnd_ok, need_run_ok h hc hs]; rfl
  wl := fun d hd s hs => by
    obtain ⟨w1, w2⟩ := (h.de d hd).1.w s hs
    refine ⟨?_, (thing_ok w1).2⟩
    rcases w2 with e | e <;> rw [e] <;> decide +kernel
  ll := fun x hx => by
    have := hv x hx
    unfold lvls at this
    rcases List.mem_cons.mp this with e | this
    · rw [e]; decide +kernel
    · rcases List.mem_cons.mp this with e | this
      · rw [e]; decide +kernel
      · rw [List.mem_singleton.mp this]; decide +kernel
end MS

end

section
/-! The law's machine: draws. -/
namespace MS
open PySem PySem.Spec PyProof.Rows L2 MX
theorem belows_mem {n : Nat} : ∀ {xs : List PV} {x : PV}, belows n xs = true → x ∈ xs → below n x = true
  | [], _, _, h => by cases h
  | y :: xs, x, h, hx => by
    simp only [belows, Bool.and_eq_true] at h
    rcases List.mem_cons.mp hx with rfl | hx
    · exact h.1
    · exact belows_mem h.2 hx
theorem it_lst {xs : List PV} {i : Nat} {x : PV} {S : Sto} (h : xs[i]? = some x) : vItem (.lst xs) (.int (i : Nat)) S = some (x, S) := by
  have := atI_nat (l := xs) (k := i)
  rw [h] at this
  unfold vItem
  simp only [seqOf, this]; rfl
def mach (l sd : Int) (cs : List Int) (sp : Int) : SO := .dct [(.inr "left", .int l), (.inr "seed", .int sd), (.inr "cells", .lst (cs.map .int)), (.inr "spot", .int sp)]
theorem mulI {a b : Int} {S : Sto} (h : (-(2 ^ 64) < a ∧ a < 2 ^ 64) ∨ (-(2 ^ 64) < b ∧ b < 2 ^ 64)) : vMulT (.int a) (.int b) S = some (.int (a * b), S) := by
  unfold vMulT vMul
  exact if_pos h
theorem modI {a b : Int} {S : Sto} (h : 0 < b) : vMod (.int a) (.int b) S = some (.int (a.fmod b), S) := if_pos (by omega)
theorem divI {a b : Int} {S : Sto} (h : 0 < b) (h2 : b < 1000000000) : vFDiv (.int a) (.int b) S = some (.int (a.fdiv b), S) := if_pos ⟨by omega, by omega⟩
theorem addI {a b : Int} {S : Sto} : vAdd (.int a) (.int b) S = some (.int (a + b), S) := rfl
theorem fmod_in {a b : Int} (h : 0 < b) : 0 ≤ a.fmod b ∧ a.fmod b < b := ⟨Int.fmod_nonneg_of_pos _ h, Int.fmod_lt_of_pos _ h⟩
section
variable {S : Sto} {i : Nat} {l sd sp : Int} {cs : List Int}
theorem d_left (h : S[i]? = some (mach l sd cs sp)) : vDItem (.ref i) (.str "left") S = some (.int l, S) := by unfold vDItem; simp only [h, mach]; rfl
theorem d_seed (h : S[i]? = some (mach l sd cs sp)) : vDItem (.ref i) (.str "seed") S = some (.int sd, S) := by unfold vDItem; simp only [h, mach]; rfl
theorem d_cells (h : S[i]? = some (mach l sd cs sp)) : vDItem (.ref i) (.str "cells") S = some (.lst (cs.map .int), S) := by unfold vDItem; simp only [h, mach]; rfl
theorem d_spot (h : S[i]? = some (mach l sd cs sp)) : vDItem (.ref i) (.str "spot") S = some (.int sp, S) := by unfold vDItem; simp only [h, mach]; rfl
theorem p_left {x : Int} (h : S[i]? = some (mach l sd cs sp)) : vSet (.ref i) (.str "left") (.int x) S = some (S.set i (mach x sd cs sp)) := by unfold vSet; simp only [h, mach]; rfl
theorem p_spot {x : Int} (h : S[i]? = some (mach l sd cs sp)) : vSet (.ref i) (.str "spot") (.int x) S = some (S.set i (mach l sd cs x)) := by unfold vSet; simp only [h, mach]; rfl
end
theorem draw_ok {S : Sto} {i : Nat} {l sd sp many : Int} {cs : List Int} (h : S[i]? = some (mach l sd cs sp)) (hc : cs ≠ []) (h0 : 0 ≤ sp) (h1 : sp < 1000000000) (m0 : 0 < many) (m1 : many < 1000000) :
    ∃ d l' sp', bodyF 8 t_l_draw [.ref i, .int many] S = .ok (.int d) (S.set i (mach l' sd cs sp')) ∧ 0 ≤ d ∧ d < many ∧ sp ≤ sp' ∧ sp' ≤ sp + 1 := by
  have hi := (List.getElem?_eq_some_iff.mp h).1
  by_cases hl : 0 < l
  · refine ⟨l.fmod many, l.fdiv many, sp, ?_, (fmod_in m0).1, (fmod_in m0).2, by omega, by omega⟩
    have f1 := d_left h
    have f2 := modI (a := l) (S := S) m0
    have f3 := divI (a := l) (S := S) m0 (by omega)
    have f4 := p_left (x := l.fdiv many) h
    simp only [t_l_draw]
    simp [f1, f2, f3, f4, hl]
  · have hS1 : (S.set i (mach l sd cs (sp + 1)))[i]? = some (mach l sd cs (sp + 1)) := List.getElem?_set_self hi
    obtain ⟨S1, e1⟩ : ∃ S1, S1 = S.set i (mach l sd cs (sp + 1)) := ⟨_, rfl⟩
    rw [← e1] at hS1
    have hlen : 0 < cs.length := List.length_pos_iff.mpr hc
    obtain ⟨j, ej⟩ : ∃ j, j = sp.fmod (cs.length : Nat) := ⟨_, rfl⟩
    have hj := fmod_in (a := sp) (b := (cs.length : Nat)) (by omega)
    rw [← ej] at hj
    have hjn : j.toNat < cs.length := by omega
    have f1 := d_left h
    have f2 := d_spot h
    have f3 := p_spot (x := sp + 1) h
    rw [← e1] at f3
    have g1 := d_cells hS1
    have g2 := d_seed hS1
    have a1 := mulI (a := 40503) (b := sp) (S := S1) (.inl ⟨by omega, by omega⟩)
    have a2 := mulI (a := 40503 * sp) (b := sp) (S := S1) (.inr ⟨by omega, by omega⟩)
    have b1 : vMod (.int sp) (.int (cs.length : Nat)) S1 = some (.int j, S1) := by rw [ej]; exact modI (by omega)
    have b2 : vItem (.lst (cs.map PV.int)) (.int j) S1 = some (.int cs[j.toNat], S1) := by
      have q := it_lst (xs := cs.map PV.int) (i := j.toNat) (x := PV.int cs[j.toNat]) (S := S1) (by rw [List.getElem?_map, List.getElem?_eq_getElem hjn]; rfl)
      rw [show ((j.toNat : Nat) : Int) = j by omega] at q
      exact q
    obtain ⟨x, ex⟩ : ∃ x, x = cs[j.toNat] := ⟨_, rfl⟩
    rw [← ex] at b2
    have c1 := mulI (a := 2) (b := sp) (S := S1) (.inl ⟨by omega, by omega⟩)
    have c2 := mulI (a := x) (b := 2 * sp + 3) (S := S1) (.inr ⟨by omega, by omega⟩)
    obtain ⟨y, ey⟩ : ∃ y, y = (x * (2 * sp + 3) + (sd + 40503 * sp * sp)).fmod 2147483647 := ⟨_, rfl⟩
    have c3 : vMod (.int (x * (2 * sp + 3) + (sd + 40503 * sp * sp))) (.int 2147483647) S1 = some (.int y, S1) := by rw [ey]; exact modI (by omega)
    have hy : 0 ≤ y ∧ y < 2147483647 := by rw [ey]; exact fmod_in (by omega)
    have d1 := mulI (a := y) (b := y) (S := S1) (.inr ⟨by omega, by omega⟩)
    have d2 := mulI (a := 69621) (b := sp) (S := S1) (.inl ⟨by omega, by omega⟩)
    obtain ⟨z, ez⟩ : ∃ z, z = (y * y + 69621 * sp + sd).fmod 2147483629 := ⟨_, rfl⟩
    have d3 : vMod (.int (y * y + 69621 * sp + sd)) (.int 2147483629) S1 = some (.int z, S1) := by rw [ez]; exact modI (by omega)
    have n1 := mulI (a := z) (b := 48271) (S := S1) (.inr ⟨by omega, by omega⟩)
    have n2 := modI (a := z * 48271 + sp) (b := 2147483647) (S := S1) (by omega)
    have n3 := divI (a := (z * 48271 + sp).fmod 2147483647) (b := 11) (S := S1) (by omega) (by omega)
    have n4 := modI (a := ((z * 48271 + sp).fmod 2147483647).fdiv 11) (b := many) (S := S1) m0
    refine ⟨(((z * 48271 + sp).fmod 2147483647).fdiv 11).fmod many, l, sp + 1, ?_, (fmod_in m0).1, (fmod_in m0).2, by omega, by omega⟩
    rw [← e1]
    simp only [t_l_draw]
    simp [-s_vItem, f1, f2, f3, hl, g1, g2, a1, a2, b1, b2, c1, c2, c3, d1, d2, d3, n1, n2, n3, n4, addI]
/-- the machine stands at i, at most n draws were drawn -/
def Ma (i : Nat) (n : Int) (S : Sto) : Prop := ∃ l sd cs sp, S[i]? = some (mach l sd cs sp) ∧ cs ≠ [] ∧ 0 ≤ sp ∧ sp ≤ n
/-- but for the machine, all stands -/
structure Ch (i : Nat) (S S' : Sto) : Prop where
  le : S.length ≤ S'.length
  eq : ∀ j, j < S.length → j ≠ i → S'[j]? = S[j]?
theorem Ch.refl {i : Nat} {S : Sto} : Ch i S S := ⟨Nat.le_refl _, fun _ _ _ => rfl⟩
theorem Ch.trans {i : Nat} {S S1 S2 : Sto} (a : Ch i S S1) (b : Ch i S1 S2) : Ch i S S2 := ⟨Nat.le_trans a.le b.le, fun j h1 h2 => (b.eq j (Nat.lt_of_lt_of_le h1 a.le) h2).trans (a.eq j h1 h2)⟩
theorem Ma.mono {i : Nat} {n m : Int} {S : Sto} (h : Ma i n S) (k : n ≤ m) : Ma i m S := by
  obtain ⟨l, sd, cs, sp, a, b, c, d⟩ := h
  exact ⟨l, sd, cs, sp, a, b, c, by omega⟩
theorem Ma.lt {i : Nat} {n : Int} {S : Sto} (h : Ma i n S) : i < S.length := by
  obtain ⟨l, sd, cs, sp, a, b, c, d⟩ := h
  exact (List.getElem?_eq_some_iff.mp a).1
theorem Ma.app {i : Nat} {n : Int} {S G : Sto} (h : Ma i n S) : Ma i n (S ++ G) := by
  have hl := h.lt
  obtain ⟨l, sd, cs, sp, a, b, c, d⟩ := h
  exact ⟨l, sd, cs, sp, by rw [List.getElem?_append_left hl]; exact a, b, c, d⟩
theorem Ch.app {i : Nat} {S G : Sto} : Ch i S (S ++ G) := ⟨by simp, fun j h _ => List.getElem?_append_left h⟩
theorem Ma.at {i : Nat} {n : Int} {S S' : Sto} (h : Ma i n S) (e : S'[i]? = S[i]?) : Ma i n S' := by
  obtain ⟨l, sd, cs, sp, a, b, c, d⟩ := h
  exact ⟨l, sd, cs, sp, by rw [e]; exact a, b, c, d⟩
theorem mach_b {l sd sp : Int} {cs : List Int} : belowO 0 (mach l sd cs sp) = true := by
  unfold mach belowO
  simp only [List.all_cons, List.all_nil, below, Bool.and_true, Bool.true_and]
  exact belows_map (e := eI) cs
/-- what a def does to the machine alone, it does anywhere -/
theorem obj_lift {N : Nat} {t : Ss} {S : Sto} {i : Nat} {n m : Int} {as : List PV} {P : PV → Prop} (h : Ma i n S) (hb : belows 0 as = true) (hP : ∀ v, P v → below 0 v = true)
    (run : ∀ S0, Ma 0 n S0 → S0.length = 1 → ∃ v S', bodyF N t (.ref 0 :: as) S0 = .ok v S' ∧ P v ∧ Ma 0 m S') :
    ∃ v S', liftO (objF (bodyF N t)) (.ref i :: as) S = .ok v S' ∧ P v ∧ Ma i m S' ∧ Ch i S S' ∧ S'.length = S.length := by
  have hi := h.lt
  obtain ⟨l, sd, cs, sp, a, b, c, d⟩ := h
  obtain ⟨v, S', e, p, l', sd', cs', sp', a', b', c', d'⟩ := run [mach l sd cs sp] ⟨l, sd, cs, sp, rfl, b, c, d⟩ rfl
  have q : objF (bodyF N t) (mach l sd cs sp) as = .ok (v, mach l' sd' cs' sp') := by
    unfold objF
    rw [if_pos ⟨hb, mach_b⟩, e]
    simp only [thaw, if_pos (hP v p), a']
    rw [if_pos mach_b]
  refine ⟨v, S.set i (mach l' sd' cs' sp'), ?_, p, ⟨l', sd', cs', sp', List.getElem?_set_self hi, b', c', d'⟩, ⟨by simp, fun j _ hj => List.getElem?_set_ne (fun z => hj z.symm)⟩, by simp⟩
  unfold liftO
  simp only [a]
  have : mach l sd cs sp ≠ .dead := by intro z; cases z
  unfold mach at this q ⊢
  simp only [q]
theorem draw {S : Sto} {i : Nat} {n many : Int} (h : Ma i n S) (hn : n < 999999999) (m0 : 0 < many) (m1 : many < 1000000) :
    ∃ (d : Nat) (S' : Sto), m_l_draw [.ref i, .int many] S = .ok (.int (d : Nat)) S' ∧ (d : Int) < many ∧ Ma i (n + 1) S' ∧ Ch i S S' ∧ S'.length = S.length := by
  obtain ⟨v, S', e, ⟨d, rfl, hd⟩, r⟩ := obj_lift (N := 8) (t := t_l_draw) (as := [.int many]) (P := fun v => ∃ d : Nat, v = .int (d : Nat) ∧ (d : Int) < many) (m := n + 1) h rfl (fun v ⟨d, e, _⟩ => by rw [e]; rfl) (fun S0 h0 _ => by
    have hi := h0.lt
    obtain ⟨l, sd, cs, sp, a, b, c, d⟩ := h0
    obtain ⟨x, l', sp', e, x0, x1, s0, s1⟩ := draw_ok a b c (by omega) m0 m1
    exact ⟨_, _, e, ⟨x.toNat, by rw [show ((x.toNat : Nat) : Int) = x by omega], by omega⟩, ⟨l', sd, cs, sp', List.getElem?_set_self hi, b, by omega, by omega⟩⟩)
  exact ⟨d, S', e, hd, r⟩
theorem of_ok {S : Sto} {i : Nat} {n : Int} {xs : List PV} (h : Ma i n S) (hn : n < 999999999) (h0 : 0 < xs.length) (h1 : xs.length < 1000) (hb : belows 0 xs = true) :
    ∃ (x : PV) (S' : Sto), m_l_of [.ref i, .lst xs] S = .ok x S' ∧ x ∈ xs ∧ Ma i (n + 1) S' ∧ Ch i S S' ∧ S'.length = S.length := by
  obtain ⟨v, S', e, p, r⟩ := obj_lift (N := 2) (t := t_l_of) (as := [.lst xs]) (P := fun v => v ∈ xs) (m := n + 1) h (by simp [belows, below, hb]) (fun v hv => belows_mem hb hv) (fun S0 g0 _ => by
    obtain ⟨d, S', e, d1, a, b, c⟩ := draw g0 hn (many := (xs.length : Nat)) (by omega) (by omega)
    have hd : d < xs.length := by omega
    refine ⟨xs[d], S', ?_, List.getElem_mem hd, a⟩
    have f := it_lst (S := S') (List.getElem?_eq_getElem hd)
    simp only [t_l_of]
    simp [-s_vItem, e, f])
  exact ⟨v, S', e, p, r⟩
end MS

end

section
/-! The law's machine: deeds, crews, levels. -/
namespace MS
open PySem PySem.Spec PyProof.Rows L2 MX
abbrev Step := W × W
abbrev stP : Step → PV := eT2 eS eS
abbrev deP : List Step → PV := eV (eT2 eS eS)
abbrev loP : Lot → PV := eV (eV (eT2 eS eS))
abbrev lvP : List W → PV := eV eS
abbrev wsP : List W → PV := eL eS
structure DeOk0 (d : List Step) : Prop where
  w : ∀ s ∈ d, s.2 ∈ words ∧ (s.1 = w_look ∨ s.1 = w_mark)
  f : ∀ (j : Nat) s, d[j]? = some s → s ∉ d.take j ∧ (s.1 = w_mark ∨ (w_mark, s.2) ∉ d.take j)
theorem DeOk0.snoc {d : List Step} {s : Step} (h : DeOk0 d) (hw : s.2 ∈ words ∧ (s.1 = w_look ∨ s.1 = w_mark)) (h1 : s ∉ d) (h2 : s.1 = w_mark ∨ (w_mark, s.2) ∉ d) : DeOk0 (d ++ [s]) := by
  refine ⟨fun x hx => ?_, fun j t ht => ?_⟩
  · rcases List.mem_append.mp hx with hx | hx
    · exact h.w x hx
    · rw [List.mem_singleton.mp hx]; exact hw
  · by_cases hj : j < d.length
    · rw [List.getElem?_append_left hj] at ht
      rw [List.take_append_of_le_length (by omega)]
      exact h.f j t ht
    · have : j = d.length := by
        have := (List.getElem?_eq_some_iff.mp ht).1
        simp at this; omega
      subst this
      simp at ht
      subst ht
      rw [show List.take d.length (d ++ [s]) = d by simp]
      exact ⟨h1, h2⟩
theorem deed_turn {S : Sto} {i r : Nat} {n : Int} {ws : List W} {f : List Step} {p2 : PV} {a b : Option PV} (h : Ma i n S) (hn : n < 999999000) (hw : ∀ w ∈ ws, w ∈ words) (h0 : 0 < ws.length) (h1 : ws.length < 1000)
    (hr : S[r]? = some (.lst (f.map stP))) (hri : r ≠ i) (hf : DeOk0 f) (hfl : f.length ≤ 5) :
    ∃ (f' : List Step) (S' : Sto), t_l_deed_1 [some (.ref i), some (wsP ws), some p2, some (.ref r), a, b] S = .nx [some (.ref i), some (wsP ws), some p2, some (.ref r), none, none] S' ∧ S'[r]? = some (.lst (f'.map stP)) ∧ DeOk0 f' ∧ f'.length ≤ f.length + 1 ∧ f' ≠ [] ∧ Ma i (n + 2) S' ∧ S'.length = S.length ∧
      ∀ j, j < S.length → j ≠ i → j ≠ r → S'[j]? = S[j]? := by
  obtain ⟨d, S1, e1, d1, m1, c1, l1⟩ := draw h (by omega) (many := 2) (by omega) (by omega)
  obtain ⟨x, S2, e2, hx, m2, c2, l2⟩ := of_ok (xs := ws.map eS) m1 (by omega) (by simpa using h0) (by simpa using h1) (belows_map ws)
  obtain ⟨w, hwm, rfl⟩ := List.mem_map.mp hx
  have hww := hw w hwm
  have hrl := (List.getElem?_eq_some_iff.mp hr).1
  have hr2 : S2[r]? = some (.lst (f.map stP)) := by rw [c2.eq r (by omega) hri, c1.eq r hrl hri]; exact hr
  obtain ⟨s, hs⟩ : ∃ s : Step, s = (if d = 1 then w_mark else w_look, w) := ⟨_, rfl⟩
  have hsw : s.2 ∈ words ∧ (s.1 = w_look ∨ s.1 = w_mark) := by
    rw [hs]
    refine ⟨hww, ?_⟩
    by_cases q : d = 1
    · right; exact if_pos q
    · left; exact if_neg q
  have i1 : vItem (.lst [.str "look", .str "mark"]) (.int (d : Nat)) S1 = some (.str s.1.1, S1) := by
    have : d = 0 ∨ d = 1 := by omega
    rcases this with rfl | rfl <;> rw [hs] <;> rfl
  have st : (PV.tup [.str s.1.1, eS w]) = stP s := by rw [hs]; rfl
  have e2' : m_l_of [.ref i, wsP ws] S1 = .ok (eS w) S2 := e2
  have e5 : sxN vTup (saCons (sx2 vItem (sxN vLst (saCons (sxC (.str "look")) (saCons (sxC (.str "mark")) saNil))) (sxCall 2 m_l_draw (saCons (sxVar 0) (saCons (sxC (.int 2)) saNil)))) (saCons (sxCall 2 m_l_of (saCons (sxVar 0) (saCons (sxVar 1) saNil))) saNil)) [some (.ref i), some (wsP ws), some p2, some (.ref r), a, b] S = .ok (stP s) S2 := by
    simp [-s_vItem, e1, e2', i1, st]
  have tc : TV (stAnd (stB (sx2 vNotIn (sxVar 5) (sxVar 3))) (stOr (stB (sx2 vEq (sx2 vItem (sxVar 5) (sxC (.int 0))) (sxC (.str "mark")))) (stB (sx2 vNotIn (sxN vTup (saCons (sxC (.str "mark")) (saCons (sx2 vItem (sxVar 5) (sxC (.int 1))) saNil))) (sxVar 3))))) [some (.ref i), some (wsP ws), some p2, some (.ref r), a, some (stP s)] S2 (.ok ((!inB s f) && (eqB s.1 w_mark || !inB (w_mark, s.2) f))) :=
    tv_andt (tv_val (ev_refNi (e := eT2 eS eS) (oa := .ok s) rfl hr2 (ev_var rfl))) (tv_ort (tv_val (ev_2t (g := fun x y => eqB x y) (o_eq (e := eS)) (ev_att (ea := eT2 eS eS) (ec := eS) (g := fun p => p.1) (ev_var (a := s) rfl) fun _ _ => rfl) (ev_c rfl))) (tv_val (ev_refNi (e := eT2 eS eS) (oa := .ok (w_mark, s.2)) rfl hr2 (ev_t2t (ev_c (ea := eS) (a := w_mark) rfl) (ev_att (ea := eT2 eS eS) (ec := eS) (g := fun p => p.2) (ev_var (a := s) rfl) fun _ _ => rfl)))))
  have tc' : stAnd (stB (sx2 vNotIn (sxVar 5) (sxVar 3))) (stOr (stB (sx2 vEq (sx2 vItem (sxVar 5) (sxC (.int 0))) (sxC (.str "mark")))) (stB (sx2 vNotIn (sxN vTup (saCons (sxC (.str "mark")) (saCons (sx2 vItem (sxVar 5) (sxC (.int 1))) saNil))) (sxVar 3)))) [some (.ref i), some (wsP ws), some p2, some (.ref r), a, some (stP s)] S2 = .ok ((!inB s f) && (eqB s.1 w_mark || !inB (w_mark, s.2) f)) S2 := tc
  have run : ∀ g, g = ((!inB s f) && (eqB s.1 w_mark || !inB (w_mark, s.2) f)) → t_l_deed_1 [some (.ref i), some (wsP ws), some p2, some (.ref r), a, b] S = (match (if g = true then ssExpr (sxMt isL vAppend (sxVar 3) (saCons (sxVar 5) saNil)) else ssNil) [some (.ref i), some (wsP ws), some p2, some (.ref r), a, some (stP s)] S2 with
      | .nx sp' S' => .nx (wipeP sp' [4, 5]) S'
      | .ct sp' S' => .ct (wipeP sp' [4, 5]) S'
      | .bk sp' S' => .bk (wipeP sp' [4, 5]) S'
      | o => o) := fun g hg => by
    unfold t_l_deed_1 ssEnd ssSeq ssSet ssIf
    rw [e5]
    show (match (bindS (stAnd _ _ [some (.ref i), some (wsP ws), some p2, some (.ref r), a, some (stP s)] S2) _ _ : SOut) with
      | .nx sp' S' => _
      | .ct sp' S' => _
      | .bk sp' S' => _
      | o => _) = _
    rw [tc', ← hg]
    cases g <;> rfl
  by_cases g : s ∉ f ∧ (s.1 = w_mark ∨ (w_mark, w) ∉ f)
  · have hs2 : s.2 = w := by rw [hs]
    have hg : true = ((!inB s f) && (eqB s.1 w_mark || !inB (w_mark, s.2) f)) := by
      rw [hs2]
      have a1 : inB s f = false := by rw [inB_iff']; exact g.1
      rcases g.2 with q | q
      · simp [a1, q]
      · have a2 : inB (w_mark, w) f = false := by rw [inB_iff']; exact q
        simp [a1, a2]
    have ap : vAppend (.ref r) [stP s] S2 = some (.non, S2.set r (.lst ((f ++ [s]).map stP))) := by
      unfold vAppend
      simp only [hr2]
      rw [if_pos (Nat.lt_of_le_of_lt (show (f.map stP).length ≤ 5 by simpa using hfl) (by decide))]
      simp
    have hl : isL S2 (.ref r) = true := by simp [MX.isL, MX.listOf, hr2]
    refine ⟨f ++ [s], S2.set r (.lst ((f ++ [s]).map stP)), ?_, ?_, hf.snoc hsw g.1 (by rw [hs2]; exact g.2), by simp, by simp, ?_, by simp; omega, fun j h1 h2 h3 => ?_⟩
    · rw [run true hg, if_pos rfl]
      have q : sxMt isL vAppend (sxVar 3) (saCons (sxVar 5) saNil) [some (.ref i), some (wsP ws), some p2, some (.ref r), a, some (stP s)] S2 = .ok .non (S2.set r (.lst ((f ++ [s]).map stP))) := by
        show (if isL S2 (.ref r) = true then Out.of (vAppend (.ref r) [stP s] S2) else .stuck) = _
        rw [if_pos hl, ap]
      unfold ssExpr
      rw [q]; rfl
    · rw [List.getElem?_set_self (by omega)]
    · have := m2.at (S' := S2.set r (.lst ((f ++ [s]).map stP))) (List.getElem?_set_ne hri)
      exact this.mono (by omega)
    · rw [List.getElem?_set_ne (fun z => h3 z.symm), c2.eq j (by omega) h2, c1.eq j h1 h2]
  · have hs2 : s.2 = w := by rw [hs]
    have hg : false = ((!inB s f) && (eqB s.1 w_mark || !inB (w_mark, s.2) f)) := by
      rw [hs2]
      symm
      rw [Bool.eq_false_iff]
      intro z
      simp only [Bool.and_eq_true, Bool.or_eq_true, Bool.not_eq_true', inB_iff', eqB_iff] at z
      exact g z
    refine ⟨f, S2, ?_, hr2, hf, by omega, ?_, m2.mono (by omega), by omega, fun j h1 h2 h3 => by rw [c2.eq j (by omega) h2, c1.eq j h1 h2]⟩
    · rw [run false hg]; rfl
    · intro hz
      subst hz
      exact g ⟨by simp, .inr (by simp)⟩
end MS

end

section
/-! The law's machine: deeds, crews, levels. -/
namespace MS
open PySem PySem.Spec PyProof.Rows L2 MX
theorem below_deP (d : List Step) : below 0 (deP d) = true := RF.b (e := eV (eT2 eS eS)) d
theorem rng1 {ta : Sx} {sp : Sl} {S S1 : Sto} {n : Nat} (h : ta sp S = .ok (.int (n : Nat)) S1) (hn : n ≤ 1000) : siRange1 ta sp S = .ok (.items (rngP 0 n)) S1 := by
  unfold siRange1
  rw [h]
  show (if RngOk (n : Int) then Out.ok (Src.items (rngP 0 (n : Int).toNat)) S1 else .stuck) = _
  rw [if_pos (show RngOk (n : Int) from Nat.ble_eq.mpr (by omega)), show (n : Int).toNat = n by omega]
theorem deed_ok {S : Sto} {i : Nat} {n : Int} {ws : List W} {long : Nat} (h : Ma i n S) (hn : n < 999990000) (hw : ∀ w ∈ ws, w ∈ words) (h0 : 0 < ws.length) (h1 : ws.length < 1000) (l1 : 1 ≤ long) (l5 : long ≤ 5) :
    ∃ (d : List Step) (S' : Sto), m_l_deed [.ref i, wsP ws, .int (long : Nat)] S = .ok (deP d) S' ∧ (DeOk d ∧ 1 ≤ d.length ∧ d.length ≤ long) ∧ Ma i (n + 11) S' ∧ Ch i S S' ∧ S'.length = S.length := by
  obtain ⟨v, S', e, ⟨d, rfl, hd⟩, r⟩ := obj_lift (N := 6) (t := t_l_deed) (as := [wsP ws, .int (long : Nat)]) (P := fun v => ∃ d, v = deP d ∧ DeOk d ∧ 1 ≤ d.length ∧ d.length ≤ long) (m := n + 11) h (by
    simp only [belows, below, Bool.and_true]
    exact RF.b (e := eL eS) ws) (fun v ⟨d, e, _⟩ => by rw [e]; exact below_deP d) (fun S0 g0 hl0 => by
    obtain ⟨z, S1, e1, z1, m1, c1, k1⟩ := draw (g0.app (G := [.lst []])) (by omega) (many := (long : Nat)) (by omega) (by omega)
    have hS1 : S1.length = 2 := by rw [k1]; simp [hl0]
    obtain ⟨sp', S', q1, ⟨f, g1, g2, g3, g4, g5, g6⟩, q3⟩ := forL_inv0 (t := sgName 4) (b := t_l_deed_1)
      (fun j sp S' => (∃ f : List Step, S'[1]? = some (.lst (f.map stP)) ∧ DeOk0 f ∧ f.length ≤ j ∧ (1 ≤ j → f ≠ []) ∧ (j ≤ 5 → Ma 0 (n + 1 + 2 * j) S') ∧ S'.length = 2) ∧ sp = [some (.ref 0), some (wsP ws), some (.int (long : Nat)), some (.ref 1), none, none])
      (xs := rngP 0 (1 + z)) (sp := [some (.ref 0), some (wsP ws), some (.int (long : Nat)), some (.ref 1), none, none]) (S := S1) ⟨⟨[], by rw [c1.eq 1 (by simp [hl0]) (by omega)]; simp [hl0], ⟨by simp, by simp⟩, by simp, by simp, fun _ => m1.mono (by omega), hS1⟩, rfl⟩ (fun j x sp S hx ⟨⟨f, g1, g2, g3, g4, g5, g6⟩, e2⟩ => by
        subst e2
        obtain ⟨hj, rfl⟩ := rngP_get hx
        have hj5 : j < 5 := by omega
        obtain ⟨f', S2, t1, t2, t3, t4, t5, t6, t7, t8⟩ := deed_turn (a := some (.int (0 + (j : Nat)))) (b := none) (p2 := .int (long : Nat)) (g5 (by omega)) (by omega) hw h0 h1 g1 (by omega) g2 (by omega)
        exact ⟨_, _, S2, rfl, .inl t1, ⟨f', t2, t3, by omega, fun _ => t5, fun _ => t6.mono (by omega), by omega⟩, rfl⟩)
    rw [rngP_length] at g3 g4 g5
    have hne := g4 (by omega)
    subst q3
    have hz5 : 1 + z ≤ 5 := by omega
    have r1 : siRange1 (sx2 vAdd (sxC (.int 1)) (sxCall 2 m_l_draw (saCons (sxVar 0) (saCons (sxVar 2) saNil)))) [some (.ref 0), some (wsP ws), some (.int (long : Nat)), some (.ref 1), none, none] (S0 ++ [.lst []]) = .ok (.items (rngP 0 (1 + z))) S1 := rng1 (n := 1 + z) (by simp [e1, addI]) (by omega)
    refine ⟨deP f, S'.set 1 .dead, ?_, ⟨f, rfl, ⟨g2.w, g2.f⟩, List.length_pos_iff.mpr hne, by omega⟩, ((g5 hz5).mono (by omega)).at (List.getElem?_set_ne (by omega))⟩
    have fin : GV (ssFrz 3 (ssRet (sxN vTuple (saCons (sxVar 3) saNil)))) [some (.ref 0), some (wsP ws), some (.int (long : Nat)), some (.ref 1), none, none] S' (.ok f) (fun v out => out = .rt (deP v) (S'.set 1 .dead)) := gv_frz (e := eT2 eS eS) (xs := f) rfl g1 rfl
    have fin' : ssFrz 3 (ssRet (sxN vTuple (saCons (sxVar 3) saNil))) [some (.ref 0), some (wsP ws), some (.int (long : Nat)), some (.ref 1), none, none] S' = .rt (deP f) (S'.set 1 .dead) := fin
    have lp : ssFor (siRange1 (sx2 vAdd (sxC (.int 1)) (sxCall 2 m_l_draw (saCons (sxVar 0) (saCons (sxVar 2) saNil))))) (sgName 4) t_l_deed_1 [some (.ref 0), some (wsP ws), some (.int (long : Nat)), some (.ref 1), none, none] (S0 ++ [.lst []]) = .nx [some (.ref 0), some (wsP ws), some (.int (long : Nat)), some (.ref 1), none, none] S' := by
      rw [s_ssFor, r1]
      exact q1
    have st0 : ssSet 3 (sxN vNew saNil) (startP 6 [.ref 0, wsP ws, .int (long : Nat)]) S0 = .nx [some (.ref 0), some (wsP ws), some (.int (long : Nat)), some (.ref 1), none, none] (S0 ++ [.lst []]) := by
      rw [← hl0]; rfl
    unfold bodyF t_l_deed
    unfold ssSeq
    rw [st0]
    simp only
    unfold ssWp
    show (match (match ssFor (siRange1 (sx2 vAdd (sxC (.int 1)) (sxCall 2 m_l_draw (saCons (sxVar 0) (saCons (sxVar 2) saNil))))) (sgName 4) t_l_deed_1 [some (.ref 0), some (wsP ws), some (.int (long : Nat)), some (.ref 1), none, none] (S0 ++ [.lst []]) with
      | .nx sp' S' => ssFrz 3 (ssRet (sxN vTuple (saCons (sxVar 3) saNil))) sp' S'
      | o => o : SOut) with
      | .rt v S' => Out.ok v S'
      | .nx _ S' => .ok .non S'
      | .exc x _ S' => .exc x S'
      | _ => .stuck) = _
    rw [lp]
    simp only
    rw [fin'])
  exact ⟨d, S', e, hd, r⟩
theorem deeds_of {long : Nat} : ∀ {ys : List PV}, (∀ (j : Nat) y, ys[j]? = some y → ∃ d, (DeOk d ∧ 1 ≤ d.length ∧ d.length ≤ long) ∧ y = deP d) → ∃ L : Lot, ys = L.map deP ∧ ∀ d ∈ L, DeOk d ∧ 1 ≤ d.length ∧ d.length ≤ long
  | [], _ => ⟨[], rfl, by simp⟩
  | y :: ys, h => by
    obtain ⟨d, h1, rfl⟩ := h 0 y rfl
    obtain ⟨L, h2, h3⟩ := deeds_of (ys := ys) fun j z hz => h (j + 1) z (by simpa using hz)
    subst h2
    exact ⟨d :: L, rfl, fun x hx => by
      rcases List.mem_cons.mp hx with rfl | hx
      · exact h1
      · exact h3 x hx⟩
def wss : List (List W) := [[ww "a"], [ww "a", ww "b"], [ww "a", ww "b", ww "c"], [ww "a", ww "ab", ww "b"], [ww "xy", ww "xyz"], [ww "a", ww "b", ww "c", ww "d"]]
theorem wss_ok {ws : List W} (h : ws ∈ wss) : (∀ w ∈ ws, w ∈ words) ∧ 0 < ws.length ∧ ws.length < 1000 := by
  have : (wss.all fun ws => (ws.all fun w => inB w words) && decide (0 < ws.length) && decide (ws.length < 1000)) = true := by decide +kernel
  have := List.all_eq_true.mp this ws h
  simp only [Bool.and_eq_true, decide_eq_true_eq, List.all_eq_true, inB_iff] at this
  exact ⟨this.1.1, this.1.2, this.2⟩
theorem crew_ok {S : Sto} {i : Nat} {n : Int} {many long : Nat} (h : Ma i n S) (hn : n < 999000000) (k1 : 1 ≤ many) (k5 : many ≤ 5) (l1 : 1 ≤ long) (l5 : long ≤ 5) :
    ∃ (L : Lot) (S' : Sto), m_l_crew [.ref i, .int (many : Nat), .int (long : Nat)] S = .ok (loP L) S' ∧ (LoOk L ∧ L.length ≤ many ∧ ∀ d ∈ L, d.length ≤ long) ∧ Ma i (n + 100) S' ∧ Ch i S S' ∧ S'.length = S.length := by
  obtain ⟨v, S', e, ⟨d, rfl, hd⟩, r⟩ := obj_lift (N := 5) (t := t_l_crew) (as := [.int (many : Nat), .int (long : Nat)]) (P := fun v => ∃ L : Lot, v = loP L ∧ LoOk L ∧ L.length ≤ many ∧ ∀ d ∈ L, d.length ≤ long) (m := n + 100) h rfl (fun v ⟨d, e, _⟩ => by rw [e]; exact RF.b (e := eV (eV (eT2 eS eS))) d) (fun S0 g0 hl0 => by
    obtain ⟨x, S1, e1, hx, m1, c1, j1⟩ := of_ok (xs := wss.map wsP) g0 (by omega) (by decide) (by decide) (belows_map wss)
    obtain ⟨ws, hws, rfl⟩ := List.mem_map.mp hx
    obtain ⟨w1, w2, w3⟩ := wss_ok hws
    obtain ⟨z, S2, e2, z1, m2, c2, j2⟩ := draw m1 (by omega) (many := (many : Nat)) (by omega) (by omega)
    obtain ⟨ys, S3, q1, q2, q4, q5⟩ := lcL_inv0 (sp := [some (.ref 0), some (.int (many : Nat)), some (.int (long : Nat)), some (wsP ws), none]) (t := sgName 4) (te := t_l_crew_1)
      (fun j S' => (j ≤ 5 → Ma 0 (n + 2 + 11 * j) S')) (fun _ y => ∃ d, (DeOk d ∧ 1 ≤ d.length ∧ d.length ≤ long) ∧ y = deP d) (xs := rngP 0 (1 + z)) (S := S2) (fun _ => m2.mono (by omega)) (fun j x S' hx a => by
        obtain ⟨hj, rfl⟩ := rngP_get hx
        obtain ⟨d, S'', t1, t2, t3, t4⟩ := deed_ok (long := long) (a (by omega)) (by omega) w1 w2 w3 l1 l5
        refine ⟨_, deP d, S'', rfl, ?_, ⟨d, t2, rfl⟩, fun _ => t3.mono (by omega)⟩
        simp only [t_l_crew_1]
        simp [t1])
    obtain ⟨L, rfl, hL⟩ := deeds_of q5
    rw [rngP_length] at q2 q4
    rw [List.length_map] at q4
    refine ⟨loP L, S3, ?_, ⟨L, rfl, ⟨by omega, by omega, fun d hd => ⟨(hL d hd).1, (hL d hd).2.1, Nat.le_trans (hL d hd).2.2 l5⟩⟩, by omega, fun d hd => (hL d hd).2.2⟩, (q2 (by omega)).mono (by omega)⟩
    have r1 : siRange1 (sx2 vAdd (sxC (.int 1)) (sxCall 2 m_l_draw (saCons (sxVar 0) (saCons (sxVar 1) saNil)))) [some (.ref 0), some (.int (many : Nat)), some (.int (long : Nat)), some (wsP ws), none] S1 = .ok (.items (rngP 0 (1 + z))) S2 := rng1 (n := 1 + z) (by simp [e2, addI]) (by omega)
    have r2 : sxLc fzL (siRange1 (sx2 vAdd (sxC (.int 1)) (sxCall 2 m_l_draw (saCons (sxVar 0) (saCons (sxVar 1) saNil))))) [4] (sgName 4) stYes t_l_crew_1 [some (.ref 0), some (.int (many : Nat)), some (.int (long : Nat)), some (wsP ws), none] S1 = .ok (.lst (L.map deP)) S3 := by
      unfold sxLc
      rw [r1]
      show (lcL _ (sgName 4) stYes t_l_crew_1 (rngP 0 (1 + z)) S2).pure _ = _
      rw [show wipeP [some (.ref 0), some (.int (many : Nat)), some (.int (long : Nat)), some (wsP ws), none] [4] = [some (PV.ref 0), some (.int (many : Nat)), some (.int (long : Nat)), some (wsP ws), none] from rfl, q1]
      show Out.of (fzL _ S3) = _
      unfold fzL
      rw [if_pos (by rw [List.length_map]; exact Nat.le_trans (show L.length ≤ 5 by omega) (by decide))]
    have e1' : m_l_of [.ref 0, .lst [.lst [.str "a"], .lst [.str "a", .str "b"], .lst [.str "a", .str "b", .str "c"], .lst [.str "a", .str "ab", .str "b"], .lst [.str "xy", .str "xyz"], .lst [.str "a", .str "b", .str "c", .str "d"]]] S0 = .ok (wsP ws) S1 := e1
    simp only [t_l_crew]
    simp [-s_sxLc, e1', r2]
    rfl)
  exact ⟨d, S', e, hd, r⟩
theorem lvls_of : ∀ {ys : List PV}, (∀ (j : Nat) y, ys[j]? = some y → ∃ x, x ∈ lvls ∧ y = eS x) → ∃ lv : List W, ys = lv.map eS ∧ ∀ x ∈ lv, x ∈ lvls
  | [], _ => ⟨[], rfl, by simp⟩
  | y :: ys, h => by
    obtain ⟨d, h1, rfl⟩ := h 0 y rfl
    obtain ⟨L, h2, h3⟩ := lvls_of (ys := ys) fun j z hz => h (j + 1) z (by simpa using hz)
    subst h2
    exact ⟨d :: L, rfl, fun x hx => by
      rcases List.mem_cons.mp hx with rfl | hx
      · exact h1
      · exact h3 x hx⟩
theorem tiers_ok {S : Sto} {i : Nat} {n : Int} {L : Lot} (hL : L.length ≤ 5) (h : Ma i n S) (hn : n < 999000000) :
    ∃ (lv : List W) (S' : Sto), m_l_tiers [.ref i, loP L] S = .ok (lvP lv) S' ∧ (lv.length = L.length ∧ ∀ x ∈ lv, x ∈ lvls) ∧ Ma i (n + 5) S' ∧ Ch i S S' ∧ S'.length = S.length := by
  obtain ⟨v, S', e, ⟨d, rfl, hd⟩, r⟩ := obj_lift (N := 3) (t := t_l_tiers) (as := [loP L]) (P := fun v => ∃ lv : List W, v = lvP lv ∧ lv.length = L.length ∧ ∀ x ∈ lv, x ∈ lvls) (m := n + 5) h (by
    simp only [belows, Bool.and_true]
    exact RF.b (e := eV (eV (eT2 eS eS))) L) (fun v ⟨d, e, _⟩ => by rw [e]; exact RF.b (e := eV eS) d) (fun S0 g0 hl0 => by
    obtain ⟨ys, S3, q1, q2, q4, q5⟩ := lcL_inv0 (sp := [some (.ref 0), some (loP L), none]) (t := sgName 2) (te := t_l_tiers_1)
      (fun j S' => (j ≤ 5 → Ma 0 (n + j) S')) (fun _ y => ∃ x, x ∈ lvls ∧ y = eS x) (xs := L.map deP) (S := S0) (fun _ => g0.mono (by omega)) (fun j x S' hx a => by
        have hj := (List.getElem?_eq_some_iff.mp hx).1
        rw [List.length_map] at hj
        obtain ⟨z, S2, e2, z1, m2, c2, k2⟩ := draw (a (by omega)) (by omega) (many := 3) (by omega) (by omega)
        have hz : z < 3 := by omega
        have hz' : z < lvls.length := hz
        refine ⟨_, eS (lvls[z]'hz'), S2, rfl, ?_, ⟨_, List.getElem_mem hz', rfl⟩, fun _ => m2.mono (by omega)⟩
        have f : vItem (.lst [.str "late", .str "early", .str "guarded"]) (.int (z : Nat)) S2 = some (eS (lvls[z]'hz'), S2) := by
          have : z = 0 ∨ z = 1 ∨ z = 2 := by omega
          rcases this with rfl | rfl | rfl <;> rfl
        simp only [t_l_tiers_1]
        simp [-s_vItem, e2, f])
    obtain ⟨lv, rfl, hlv⟩ := lvls_of q5
    rw [List.length_map] at q2
    rw [List.length_map, List.length_map] at q4
    refine ⟨lvP lv, S3, ?_, ⟨lv, rfl, q4, hlv⟩, (q2 hL).mono (by omega)⟩
    have r2 : sxLc fzL (siSeq (sxVar 1)) [2] (sgName 2) stYes t_l_tiers_1 [some (.ref 0), some (loP L), none] S0 = .ok (.lst (lv.map eS)) S3 := by
      unfold sxLc
      rw [show siSeq (sxVar 1) [some (.ref 0), some (loP L), none] S0 = .ok (.items (L.map deP)) S0 from rfl]
      show (lcL _ (sgName 2) stYes t_l_tiers_1 (L.map deP) S0).pure _ = _
      rw [show wipeP [some (.ref 0), some (loP L), none] [2] = [some (PV.ref 0), some (loP L), none] from rfl, q1]
      show Out.of (fzL _ S3) = _
      unfold fzL
      rw [if_pos (by rw [List.length_map]; exact Nat.le_trans (show lv.length ≤ 5 by omega) (by decide))]
    simp only [t_l_tiers]
    simp [-s_sxLc, r2]
    rfl)
  exact ⟨d, S', e, hd, r⟩
end MS

end

section
/-! The law's machine: runs. -/
namespace MS
open PySem PySem.Spec PyProof.Rows L2 MX
theorem ixN_nat {n k : Nat} (h : k < n) : ixN n (k : Int) = some k := by
  unfold ixN
  rw [if_pos (by omega), if_pos (by omega)]; simp
theorem intsOf_map {α : Type} (f : α → Int) : ∀ l : List α, intsOf (l.map fun a => PV.int (f a)) = some (l.map f)
  | [] => rfl
  | a :: l => by simp [intsOf, intsOf_map f l]
theorem sum_cast (l : List Nat) : (l.map fun n : Nat => (n : Int)).sum = (l.sum : Nat) := by
  induction l with
  | nil => rfl
  | cons a l ih => simp [ih]
theorem sxLc_fz {ti : Si} {is : List Nat} {t : Sg} {c : St'} {te : Sx} {sp : Sl} {S S1 S2 : Sto} {xs ys : List PV} (h1 : ti sp S = .ok (.items xs) S1) (h2 : lcL (wipeP sp is) t c te xs S1 = .ok ys S2) (h3 : Fits ys.length) : sxLc fzL ti is t c te sp S = .ok (.lst ys) S2 := by
  rw [s_sxLc, h1]
  show (Out.pure (lcL (wipeP sp is) t c te xs S1) fun ys S2 => Out.of (fzL ys S2)) = _
  rw [h2]
  show Out.of (fzL _ _) = _
  rw [s_fzL, if_pos h3]
theorem it_ref {r i : Nat} {xs : List PV} {x : PV} {S : Sto} (hr : S[r]? = some (.lst xs)) (h : xs[i]? = some x) : vItem (.ref r) (.int (i : Nat)) S = some (x, S) := by
  rw [s_vItem]; simp [MX.seqOf, hr, h, MX.atI_nat]
theorem it_refl {r : Nat} {xs : List PV} {x : PV} {S : Sto} (hr : S[r]? = some (.lst xs)) (h : xs.getLast? = some x) : vItem (.ref r) (.int (-1)) S = some (x, S) := by
  rw [s_vItem]; simp [MX.seqOf, hr, MX.atI_last, h]
def inP (l : List Nat) : List PV := l.map fun k => PV.int (k : Nat)
theorem set_sum : ∀ {l : List Nat} {k v : Nat}, l[k]? = some (v + 1) → (l.set k v).sum + 1 = l.sum
  | [], _, _, h => by simp at h
  | a :: l, 0, v, h => by simp at h; subst h; simp; omega
  | a :: l, k + 1, v, h => by
    have := set_sum (l := l) (k := k) (v := v) (by simpa using h)
    simp only [List.set_cons_succ, List.sum_cons]; omega
theorem sum_pos : ∀ {l : List Nat}, 0 < l.sum → ∃ (k v : Nat), l[k]? = some (v + 1)
  | [], h => by simp at h
  | 0 :: l, h => by
    obtain ⟨k, v, e⟩ := sum_pos (l := l) (by simpa using h)
    exact ⟨k + 1, v, by simpa using e⟩
  | (a + 1) :: l, _ => ⟨0, a, rfl⟩
theorem sum_zero : ∀ {l : List Nat}, l.sum = 0 → ∀ (k v : Nat), l[k]? = some v → v = 0
  | [], _, _, _, e => by simp at e
  | a :: l, h, 0, v, e => by simp at e h; omega
  | a :: l, h, k + 1, v, e => sum_zero (l := l) (by simp at h; omega) k v (by simpa using e)
structure CI (L : Lot) (i r : Nat) (n : Int) (S0 : Sto) (lf c : List Nat) (S : Sto) : Prop where
  left : S[r]? = some (.lst (inP lf))
  found : S[r + 1]? = some (.lst (inP c))
  ll : lf.length = L.length
  lt : ∀ k ∈ c, k < L.length
  cnt : ∀ k d, L[k]? = some d → ∃ v, lf[k]? = some v ∧ v + c.count k = d.length + 1
  sum : c.length + lf.sum = (L.map fun d => d.length + 1).sum
  ma : Ma i (n + 2 * c.length) S
  len : S.length = r + 2
  eq : ∀ x, x < r → x ≠ i → S[x]? = S0[x]?
theorem ne_nil {r : Nat} {c : List Nat} {S : Sto} (h : S[r]? = some (.lst (inP c))) (hc : ∀ k ∈ c, k < 1000) : vNe (.ref r) (.lst []) S = some (.bl (!c.isEmpty), S) := by
  have hs : sms (inP c) = true := sms_map fun a ha => decide_eq_true (by have := hc a ha; simp only [Int.natAbs_natCast]; omega)
  have k := sms_ok (inP c) hs
  have hd := dps_map (f := fun k : Nat => PV.int (k : Nat)) (n := 0) (l := c) fun a _ => Nat.le_refl _
  have d2 : dOf S (.ref r) = some (.list (dts (inP c))) := by
    unfold dOf
    simp only [h, k.1]; rfl
  have sh2 : SeqAt.shaped (.list (dts (inP c))) = true := shaped_sm (v := .lst (inP c)) (by simpa only [sm] using hs) (by simp only [dp, inP]; omega)
  have d1 : dOf S (.lst []) = some (.list []) := rfl
  unfold vNe
  rw [d2, d1]
  show (if _ ∧ _ then _ else _) = _
  rw [if_pos ⟨sh2, rfl⟩]
  congr 3
  cases c <;> rfl
theorem total_le {L : Lot} (h : LoOk L) : (L.map fun d => d.length + 1).sum ≤ 30 := by
  have h1 : ∀ l : Lot, (∀ d ∈ l, d.length ≤ 5) → (l.map fun d => d.length + 1).sum ≤ 6 * l.length := fun l => by
    induction l with
    | nil => intro _; exact Nat.le_refl _
    | cons a l ih =>
      intro hl
      have := hl a (List.mem_cons_self ..)
      have := ih fun x hx => hl x (List.mem_cons_of_mem _ hx)
      simp only [List.map_cons, List.sum_cons, List.length_cons]
      omega
  have := h1 L fun d hd => (h.de d hd).2.2
  have := h.n5
  omega
def gtz (lf : List Nat) (k : Nat) : Bool := decide (0 < (lf[k]?).getD 0)
theorem end_of {vs : List Nat} {t : Ss} {sp sp' : Sl} {S S' : Sto} (h : t sp S = .nx sp' S') : ssEnd vs t sp S = .nx (wipeP sp' vs) S' := by
  unfold ssEnd
  rw [h]
theorem course_turn {L : Lot} {i r : Nat} {n : Int} {S0 S : Sto} {lf c : List Nat} {a b d : Option PV} (hL : LoOk L) (h : CI L i r n S0 lf c S) (hn : n < 999000000) (hir : i < r) (hp : 0 < lf.sum) :
    ∃ (lf' c' : List Nat) (S' : Sto) (b' : Option PV), t_l_course_5 [some (.ref i), some (loP L), some (.ref r), some (.ref (r + 1)), a, b, d] S = .nx [some (.ref i), some (loP L), some (.ref r), some (.ref (r + 1)), none, b', d] S' ∧ CI L i r n S0 lf' c' S' ∧ lf'.sum + 1 = lf.sum := by
  have h5 := hL.n5
  have ht := total_le hL
  have hcl : c.length ≤ 30 := by have := h.sum; omega
  -- those that are left
  have e0 : ∀ a, lcL [some (.ref i), some (loP L), some (.ref r), some (.ref (r + 1)), a, none, d] (sgName 5) t_l_course_2 t_l_course_3 (rngP 0 L.length) S = .ok (inP ((List.range L.length).filter (gtz lf))) S := fun a => by
    rw [rngP0]
    refine lcL_map (fun p : Nat => PV.int (p : Nat)) (fun p => PV.int (p : Nat)) (gtz lf) (List.range L.length) fun p hp => ⟨_, rfl, ?_, fun _ => by simp [t_l_course_3]⟩
    have hpl : p < lf.length := by rw [h.ll]; exact List.mem_range.mp hp
    have f : vItem (.ref r) (.int (p : Nat)) S = some (.int (lf[p] : Nat), S) := it_ref h.left (by unfold inP; rw [List.getElem?_map, List.getElem?_eq_getElem hpl]; rfl)
    have g : gtz lf p = decide (0 < lf[p]) := by unfold gtz; rw [List.getElem?_eq_getElem hpl]; rfl
    have g2 : decide ((0 : Int) < (lf[p] : Nat)) = decide (0 < lf[p]) := decide_eq_decide.mpr (by omega)
    simp only [t_l_course_2]
    simp [-s_vItem, f, g]
  have r1 : ∀ a b, siRange1 (sxN vLen (saCons (sxVar 1) saNil)) [some (.ref i), some (loP L), some (.ref r), some (.ref (r + 1)), a, b, d] S = .ok (.items (rngP 0 L.length)) S := fun a b => rng1 (by simp [eV, MX.seqOf]) (by omega)
  have r2 := sxLc_fz (is := [5]) (t := sgName 5) (c := t_l_course_2) (te := t_l_course_3) (r1 a b) (e0 a) (fits_of (by
    unfold inP
    rw [List.length_map]
    exact Nat.le_trans (List.length_filter_le _ _) (by rw [List.length_range]; omega)))
  obtain ⟨sm', hsm⟩ : ∃ l, l = (List.range L.length).filter (gtz lf) := ⟨_, rfl⟩
  rw [← hsm] at r2
  have hsl : sm'.length ≤ 5 := by rw [hsm]; exact Nat.le_trans (List.length_filter_le _ _) (by rw [List.length_range]; omega)
  have hin : ∀ k ∈ sm', k < L.length ∧ ∃ v, lf[k]? = some (v + 1) := fun k hk => by
    rw [hsm] at hk
    obtain ⟨k1, k2⟩ := List.mem_filter.mp hk
    have hk := List.mem_range.mp k1
    have hpl : k < lf.length := by rw [h.ll]; exact hk
    unfold gtz at k2
    rw [List.getElem?_eq_getElem hpl] at k2 ⊢
    have : 0 < lf[k] := of_decide_eq_true k2
    exact ⟨hk, lf[k] - 1, by congr 1; omega⟩
  have hs0 : 0 < sm'.length := by
    obtain ⟨k, v, e⟩ := sum_pos hp
    have hk : k < L.length := by rw [← h.ll]; exact (List.getElem?_eq_some_iff.mp e).1
    have : k ∈ sm' := by
      rw [hsm]
      refine List.mem_filter.mpr ⟨List.mem_range.mpr hk, ?_⟩
      unfold gtz; rw [e]; exact decide_eq_true (Nat.succ_pos _)
    exact List.length_pos_of_mem this
  obtain ⟨z, S1, d1, d2, d3, d4, d5⟩ := draw h.ma (by omega) (many := (sm'.length : Nat)) (by omega) (by omega)
  have hz : z < sm'.length := by omega
  have f1 : vItem (.lst (inP sm')) (.int (z : Nat)) S1 = some (.int (sm'[z] : Nat), S1) := it_lst (by unfold inP; rw [List.getElem?_map, List.getElem?_eq_getElem hz]; rfl)
  obtain ⟨k1, v1, k2⟩ := hin _ (List.getElem_mem hz)
  have lr : S1[r]? = some (.lst (inP lf)) := by rw [d4.eq r (by have := h.len; omega) (by omega)]; exact h.left
  have fr : S1[r + 1]? = some (.lst (inP c)) := by rw [d4.eq (r + 1) (by have := h.len; omega) (by omega)]; exact h.found
  have e1 := ne_nil fr fun k hk => by have := h.lt k hk; omega
  -- the last step: k taken at S2
  have fin : ∀ (k v : Nat) (S2 : Sto), k < L.length → lf[k]? = some (v + 1) → S2[r]? = some (.lst (inP lf)) → S2[r + 1]? = some (.lst (inP c)) → Ma i (n + 2 * c.length + 2) S2 → S2.length = r + 2 → (∀ x, x < r → x ≠ i → S2[x]? = S0[x]?) →
      ∃ S3, (ssSeq (ssSub (sxVar 2) (sxVar 5) (sx2 vSub (sx2 vItem (sxVar 2) (sxVar 5)) (sxC (.int 1)))) (ssExpr (sxMt MX.isL vAppend (sxVar 3) (saCons (sxVar 5) saNil)))) [some (.ref i), some (loP L), some (.ref r), some (.ref (r + 1)), some (.lst (inP sm')), some (.int (k : Nat)), d] S2 =
        .nx [some (.ref i), some (loP L), some (.ref r), some (.ref (r + 1)), some (.lst (inP sm')), some (.int (k : Nat)), d] S3 ∧ CI L i r n S0 (lf.set k v) (c ++ [k]) S3 := fun k v S2 hk hv l2 f2 m2 len2 eq2 => by
    have g1 : vItem (.ref r) (.int (k : Nat)) S2 = some (.int ((v + 1 : Nat) : Nat), S2) := it_ref l2 (by unfold inP; rw [List.getElem?_map, hv]; rfl)
    have hx : ixN (inP lf).length (k : Int) = some k := ixN_nat (by unfold inP; rw [List.length_map, h.ll]; exact hk)
    have g2 : vSet (.ref r) (.int (k : Nat)) (.int (v : Nat)) S2 = some (S2.set r (.lst (inP (lf.set k v)))) := by
      unfold vSet
      simp only [l2, hx, Option.map_some]
      unfold inP
      rw [List.map_set]
    have g3 : (S2.set r (.lst (inP (lf.set k v))))[r + 1]? = some (.lst (inP c)) := by rw [List.getElem?_set_ne (by omega)]; exact f2
    have g4 : Fits ((inP c).length + 1) := fits_of (by unfold inP; rw [List.length_map]; omega)
    have g5 : ((v + 1 : Nat) : Int) - 1 = (v : Nat) := by omega
    refine ⟨(S2.set r (.lst (inP (lf.set k v)))).set (r + 1) (.lst (inP (c ++ [k]))), ?_, ⟨?_, ?_, by simp [h.ll], ?_, fun x dd hx => ?_, ?_, ?_, by simp [len2], fun x hx hxi => ?_⟩⟩
    · have e : inP (c ++ [k]) = inP c ++ [.int (k : Nat)] := by simp [inP]
      rw [e]
      have g1' : vItem (.ref r) (.int (k : Nat)) S2 = some (.int ((v : Int) + 1), S2) := g1
      simp [-s_vItem, g1', g2, g3, g4, MX.isL, MX.listOf]
    · rw [List.getElem?_set_ne (by omega), List.getElem?_set_self (by omega)]
    · rw [List.getElem?_set_self (by simp; omega)]
    · intro x hx
      rcases List.mem_append.mp hx with hx | hx
      · exact h.lt x hx
      · rw [List.mem_singleton.mp hx]; exact hk
    · obtain ⟨w, w1, w2⟩ := h.cnt x dd hx
      rw [List.count_append, List.count_singleton]
      by_cases hxk : x = k
      · subst hxk
        rw [hv] at w1; cases w1
        exact ⟨v, List.getElem?_set_self (by rw [h.ll]; exact hk), by simp; omega⟩
      · exact ⟨w, by rw [List.getElem?_set_ne (fun z => hxk z.symm)]; exact w1, by rw [if_neg (by simp; exact fun z => hxk z.symm)]; omega⟩
    · have := set_sum hv
      have := h.sum
      simp only [List.length_append, List.length_singleton]; omega
    · have := m2.at (S' := (S2.set r (.lst (inP (lf.set k v)))).set (r + 1) (.lst (inP (c ++ [k])))) (by rw [List.getElem?_set_ne (by omega), List.getElem?_set_ne (by omega)])
      exact this.mono (by simp only [List.length_append, List.length_singleton]; omega)
    · rw [List.getElem?_set_ne (by omega), List.getElem?_set_ne (by omega)]; exact eq2 x hx hxi
  have A : (ssSet 4 (sxLc fzL (siRange1 (sxN vLen (saCons (sxVar 1) saNil))) [5] (sgName 5) t_l_course_2 t_l_course_3)) [some (.ref i), some (loP L), some (.ref r), some (.ref (r + 1)), a, b, d] S = .nx [some (.ref i), some (loP L), some (.ref r), some (.ref (r + 1)), some (.lst (inP sm')), b, d] S := by
    rw [s_ssSet, r2]; rfl
  have B : (ssSet 5 (sx2 vItem (sxVar 4) (sxCall 2 m_l_draw (saCons (sxVar 0) (saCons (sxN vLen (saCons (sxVar 4) saNil)) saNil))))) [some (.ref i), some (loP L), some (.ref r), some (.ref (r + 1)), some (.lst (inP sm')), b, d] S = .nx [some (.ref i), some (loP L), some (.ref r), some (.ref (r + 1)), some (.lst (inP sm')), some (.int (sm'[z] : Nat)), d] S1 := by
    have hl : (inP sm').length = sm'.length := by simp [inP]
    simp [-s_vItem, hl, d1, f1]
  have go : ∀ (k v : Nat) (S2 : Sto), (ssIf (stAnd (stB (sx2 vNe (sxVar 3) (sxN vLst saNil))) (stAnd (stB (sx2 vGt (sx2 vItem (sxVar 2) (sx2 vItem (sxVar 3) (sx1 vNeg (sxC (.int 1))))) (sxC (.int 0)))) (stB (sx2 vEq (sxCall 2 m_l_draw (saCons (sxVar 0) (saCons (sxC (.int 2)) saNil))) (sxC (.int 0)))))) (ssSet 5 (sx2 vItem (sxVar 3) (sx1 vNeg (sxC (.int 1))))) ssNil) [some (.ref i), some (loP L), some (.ref r), some (.ref (r + 1)), some (.lst (inP sm')), some (.int (sm'[z] : Nat)), d] S1 =
        .nx [some (.ref i), some (loP L), some (.ref r), some (.ref (r + 1)), some (.lst (inP sm')), some (.int (k : Nat)), d] S2 → k < L.length → lf[k]? = some (v + 1) → S2[r]? = some (.lst (inP lf)) → S2[r + 1]? = some (.lst (inP c)) → Ma i (n + 2 * c.length + 2) S2 → S2.length = r + 2 → (∀ x, x < r → x ≠ i → S2[x]? = S0[x]?) →
      ∃ (lf' c' : List Nat) (S' : Sto) (b' : Option PV), t_l_course_5 [some (.ref i), some (loP L), some (.ref r), some (.ref (r + 1)), a, b, d] S = .nx [some (.ref i), some (loP L), some (.ref r), some (.ref (r + 1)), none, b', d] S' ∧ CI L i r n S0 lf' c' S' ∧ lf'.sum + 1 = lf.sum := fun k v S2 hC hk hv l2 f2 m2 len2 eq2 => by
    obtain ⟨S3, D, hI⟩ := fin k v S2 hk hv l2 f2 m2 len2 eq2
    refine ⟨lf.set k v, c ++ [k], S3, some (.int (k : Nat)), ?_, hI, set_sum hv⟩
    unfold t_l_course_5
    refine end_of (sp' := [some (.ref i), some (loP L), some (.ref r), some (.ref (r + 1)), some (.lst (inP sm')), some (.int (k : Nat)), d]) ?_
    rw [s_ssSeq, A]
    show ssSeq _ _ _ _ = _
    rw [s_ssSeq, B]
    show ssSeq _ _ _ _ = _
    rw [s_ssSeq, hC]
    exact D
  have eq1 : ∀ x, x < r → x ≠ i → S1[x]? = S0[x]? := fun x hx hxi => by rw [d4.eq x (by have := h.len; omega) hxi]; exact h.eq x hx hxi
  have len1 : S1.length = r + 2 := by rw [d5]; exact h.len
  cases hc : c with
  | nil =>
    have e1' := e1
    rw [hc] at e1'
    exact go sm'[z] v1 S1 (by simp [e1']) k1 k2 lr fr (d3.mono (by omega)) len1 eq1
  | cons c0 cr =>
    have hne : c ≠ [] := by rw [hc]; simp
    have e1' : vNe (.ref (r + 1)) (.lst []) S1 = some (.bl true, S1) := by rw [e1, hc]; rfl
    obtain ⟨q, hq⟩ : ∃ q, q = c.getLast hne := ⟨_, rfl⟩
    have hql : q < L.length := h.lt q (by rw [hq]; exact List.getLast_mem hne)
    obtain ⟨w, w1, -⟩ := h.cnt q _ (List.getElem?_eq_getElem hql)
    have g1 : vItem (.ref (r + 1)) (.int (-1)) S1 = some (.int (q : Nat), S1) := it_refl fr (by unfold inP; rw [List.getLast?_map, List.getLast?_eq_some_getLast hne, hq]; rfl)
    have g2 : vItem (.ref r) (.int (q : Nat)) S1 = some (.int (w : Nat), S1) := it_ref lr (by unfold inP; rw [List.getElem?_map, w1]; rfl)
    cases w with
    | zero =>
      have g2' : vItem (.ref r) (.int (q : Nat)) S1 = some (.int 0, S1) := g2
      exact go sm'[z] v1 S1 (by simp [-s_vItem, e1', g1, g2', vNeg]) k1 k2 lr fr (d3.mono (by omega)) len1 eq1
    | succ w =>
      obtain ⟨y, S2, y1, y2, y3, y4, y5⟩ := draw d3 (by omega) (many := 2) (by omega) (by omega)
      have lr2 : S2[r]? = some (.lst (inP lf)) := by rw [y4.eq r (by omega) (by omega)]; exact lr
      have fr2 : S2[r + 1]? = some (.lst (inP c)) := by rw [y4.eq (r + 1) (by omega) (by omega)]; exact fr
      have eq2 : ∀ x, x < r → x ≠ i → S2[x]? = S0[x]? := fun x hx hxi => by rw [y4.eq x (by omega) hxi]; exact eq1 x hx hxi
      have g3 : vItem (.ref (r + 1)) (.int (-1)) S2 = some (.int (q : Nat), S2) := it_refl fr2 (by unfold inP; rw [List.getLast?_map, List.getLast?_eq_some_getLast hne, hq]; rfl)
      have g4 : (0 : Int) < (w : Int) + 1 := by omega
      have g2' : vItem (.ref r) (.int (q : Nat)) S1 = some (.int ((w : Int) + 1), S1) := g2
      have hy : y = 0 ∨ y = 1 := by omega
      rcases hy with rfl | rfl
      · have y1' : m_l_draw [.ref i, .int 2] S1 = .ok (.int 0) S2 := y1
        exact go q w S2 (by simp [-s_vItem, e1', g1, g2', g3, g4, y1', vNeg]) hql w1 lr2 fr2 (y3.mono (by omega)) (by omega) eq2
      · have y1' : m_l_draw [.ref i, .int 2] S1 = .ok (.int 1) S2 := y1
        exact go sm'[z] v1 S2 (by simp [-s_vItem, e1', g1, g2', g3, g4, y1', vNeg]) k1 k2 lr2 fr2 (y3.mono (by omega)) (by omega) eq2
end MS

end

section
/-! The law's machine: runs, the machine's beginning. -/
namespace MS
open PySem PySem.Spec PyProof.Rows L2 MX
theorem sxLc_nw {ti : Si} {is : List Nat} {t : Sg} {c : St'} {te : Sx} {sp : Sl} {S S1 S2 : Sto} {xs ys : List PV} (h1 : ti sp S = .ok (.items xs) S1) (h2 : lcL (wipeP sp is) t c te xs S1 = .ok ys S2) (h3 : Fits ys.length) : sxLc nwL ti is t c te sp S = .ok (.ref S2.length) (S2 ++ [.lst ys]) := by
  rw [s_sxLc, h1]
  show (Out.pure (lcL (wipeP sp is) t c te xs S1) fun ys S2 => Out.of (nwL ys S2)) = _
  rw [h2]
  show Out.of (nwL _ _) = _
  rw [s_nwL, if_pos h3]
structure CoOk (L : Lot) (c : List Int) : Prop extends Okc L c where
  sum : (c.length : Int) = (L.map fun d => (d.length : Int) + 1).sum
theorem sum_ci (L : Lot) : (L.map fun d => (d.length : Int) + 1).sum = ((L.map fun d => d.length + 1).sum : Nat) := by
  induction L with
  | nil => rfl
  | cons d L ih => simp only [List.map_cons, List.sum_cons, ih]; omega
theorem count_ci (c : List Nat) (k : Nat) : (c.map ci).count (k : Int) = c.count k := by
  induction c with
  | nil => rfl
  | cons a c ih =>
    rw [List.map_cons, List.count_cons, List.count_cons, ih]
    by_cases h : a = k
    · subst h; simp
    · have h2 : ¬ ci a = (k : Int) := by unfold ci; omega
      simp [h, h2]
theorem course_ok {S : Sto} {i : Nat} {n : Int} {L : Lot} (hL : LoOk L) (h : Ma i n S) (hn : n < 998000000) :
    ∃ (c : List Int) (S' : Sto), m_l_course [.ref i, loP L] S = .ok (eV eI c) S' ∧ CoOk L c ∧ Ma i (n + 60) S' ∧ Ch i S S' ∧ S'.length = S.length := by
  obtain ⟨v, S', e, ⟨c, rfl, hc⟩, r⟩ := obj_lift (N := 7) (t := t_l_course) (as := [loP L]) (P := fun v => ∃ c : List Int, v = eV eI c ∧ CoOk L c) (m := n + 60) h (by
    simp only [belows, Bool.and_true]
    exact RF.b (e := eV (eV (eT2 eS eS))) L) (fun v ⟨d, e, _⟩ => by rw [e]; exact RF.b (e := eV eI) d) (fun S h hl0 => by
    have hi := h.lt
    have ht := total_le hL
    have h5 := hL.n5
    have e0 := lcL_map1 (sp := [some (.ref 0), some (loP L), none, none, none, none, none]) (t := sgName 6) (te := t_l_course_1) (S := S) deP (fun d => PV.int ((d.length + 1 : Nat) : Nat)) L fun a ha => by
      refine ⟨_, rfl, ?_⟩
      simp [t_l_course_1, eV, MX.seqOf, vAdd]
    have e1 := sxLc_nw (is := [6]) (t := sgName 6) (c := stYes) (te := t_l_course_1) (ti := siSeq (sxVar 1)) (sp := [some (.ref 0), some (loP L), none, none, none, none, none]) (S := S) (S1 := S) (xs := L.map deP) rfl e0 (fits_of (by rw [List.length_map]; omega))
    have st : CI L 0 S.length n S (L.map fun d => d.length + 1) [] (S ++ [.lst (L.map fun d => PV.int ((d.length + 1 : Nat) : Nat))] ++ [.lst []]) := by
      refine ⟨?_, ?_, by simp, by simp, fun k d hk => ⟨d.length + 1, by rw [List.getElem?_map, hk]; rfl, by simp⟩, by simp, (h.app.app).mono (by simp), by simp, fun x hx hxi => ?_⟩
      · unfold inP; rw [List.map_map, List.append_assoc, List.getElem?_append_right (by omega)]; simp [Function.comp_def]
      · simp [inP]
      · rw [List.append_assoc, List.getElem?_append_left hx]
    obtain ⟨sp', S', w1, lf, c, b, d, rfl, w2, w3⟩ := whileN_inv (c := t_l_course_4) (b := t_l_course_5)
      (fun m sp S' => ∃ lf c b d, sp = [some (.ref 0), some (loP L), some (.ref S.length), some (.ref (S.length + 1)), none, b, d] ∧ CI L 0 S.length n S lf c S' ∧ m = lf.sum)
      (fun sp S' => ∃ lf c b d, sp = [some (.ref 0), some (loP L), some (.ref S.length), some (.ref (S.length + 1)), none, b, d] ∧ CI L 0 S.length n S lf c S' ∧ lf.sum = 0)
      (fun m sp S' ⟨lf, c, b, d, e, hI, hm⟩ => by
        subst e
        refine ⟨decide (0 < lf.sum), S', ?_, fun hk => ⟨lf, c, b, d, rfl, hI, by have := of_decide_eq_false hk; omega⟩, fun hk => ?_⟩
        · have f : vSum [.ref S.length] S' = some (.int (lf.sum : Nat), S') := by
            have q := sum_cast lf
            unfold vSum
            simp only [MX.listOf, hI.left, Option.bind]
            unfold inP
            rw [intsOf_map]
            simp only [Option.map_some]
            rw [← q]
          have g : decide ((0 : Int) < (lf.sum : Nat)) = decide (0 < lf.sum) := decide_eq_decide.mpr (by omega)
          simp only [t_l_course_4]
          simp [f]
        · obtain ⟨lf', c', S2, b', q1, q2, q3⟩ := course_turn (a := none) (b := b) (d := d) hL hI (by omega) hi (of_decide_eq_true hk)
          exact ⟨_, S2, lf'.sum, .inl q1, by omega, lf', c', b', d, rfl, q2, rfl⟩)
      1000000 ((L.map fun d => d.length + 1).sum) [some (.ref 0), some (loP L), some (.ref S.length), some (.ref (S.length + 1)), none, none, none] (S ++ [.lst (L.map fun d => PV.int ((d.length + 1 : Nat) : Nat))] ++ [.lst []]) (by omega) ⟨_, _, _, _, rfl, st, rfl⟩
    have hz := sum_zero w3
    have hsum := w2.sum
    have f : S'[S.length + 1]? = some (.lst (inP c)) := w2.found
    have fI : S'[S.length + 1]? = some (.lst ((c.map ci).map eI)) := by rw [f]; unfold inP; rw [List.map_map]; rfl
    have e2 : (S ++ [SO.lst (L.map fun d => PV.int ((d.length + 1 : Nat) : Nat))]).length = S.length + 1 := by simp
    have A : (ssAsg (sxN vTup (saCons (sxLc nwL (siSeq (sxVar 1)) [6] (sgName 6) stYes t_l_course_1) (saCons (sxN vNew saNil) saNil))) (sgTup 2 (sgCons (sgName 2) (sgCons (sgName 3) sgNil)))) [some (.ref 0), some (loP L), none, none, none, none, none] S =
        .nx [some (.ref 0), some (loP L), some (.ref S.length), some (.ref (S.length + 1)), none, none, none] (S ++ [.lst (L.map fun d => PV.int ((d.length + 1 : Nat) : Nat))] ++ [.lst []]) := by
      simp [-s_sxLc, -List.append_assoc, -Int.natCast_add, e1]
    have fin : GV (ssFrz 3 (ssRet (sxN vTuple (saCons (sxVar 3) saNil)))) [some (.ref 0), some (loP L), some (.ref S.length), some (.ref (S.length + 1)), none, b, d] S' (.ok (c.map ci)) (fun v out => out = .rt (eV eI v) (S'.set (S.length + 1) .dead)) := gv_frz (e := eI) (xs := c.map ci) rfl fI rfl
    have fin' : ssFrz 3 (ssRet (sxN vTuple (saCons (sxVar 3) saNil))) [some (.ref 0), some (loP L), some (.ref S.length), some (.ref (S.length + 1)), none, b, d] S' = .rt (eV eI (c.map ci)) (S'.set (S.length + 1) .dead) := fin
    have T : t_l_course [some (.ref 0), some (loP L), none, none, none, none, none] S = .rt (eV eI (c.map ci)) (S'.set (S.length + 1) .dead) := by
      unfold t_l_course
      rw [s_ssSeq, A]
      show ssSeq _ _ _ _ = _
      rw [s_ssSeq]
      have : ssWp [4] (ssWhile 1000000 t_l_course_4 t_l_course_5) [some (.ref 0), some (loP L), some (.ref S.length), some (.ref (S.length + 1)), none, none, none] (S ++ [.lst (L.map fun d => PV.int ((d.length + 1 : Nat) : Nat))] ++ [.lst []]) = .nx [some (.ref 0), some (loP L), some (.ref S.length), some (.ref (S.length + 1)), none, b, d] S' := by
        unfold ssWp
        rw [s_ssWhile]
        exact w1
      rw [this]
      exact fin'
    have hlen := w2.len
    refine ⟨eV eI (c.map ci), S'.set (S.length + 1) .dead, ?_, ⟨c.map ci, rfl, ⟨⟨h5, fun d hd => (hL.de d hd).2.2, fun x hx => ?_, fun k hk => ?_, ?_⟩, ?_⟩⟩, (w2.ma.mono (by omega)).at (List.getElem?_set_ne (by omega))⟩
    · unfold bodyF
      rw [show startP 7 [.ref 0, loP L] = [some (.ref 0), some (loP L), none, none, none, none, none] from rfl, T]
    · obtain ⟨k, hk, rfl⟩ := List.mem_map.mp hx
      have := w2.lt k hk
      unfold ci; omega
    · rw [count_ci]
      obtain ⟨v, v1, v2⟩ := w2.cnt k _ (dd_get hk)
      have := hz k v v1
      omega
    · rw [List.length_map]; omega
    · rw [sum_ci, List.length_map]; omega)
  exact ⟨c, S', e, hc, r⟩
end MS

end

section
/-! The law's machine begins. -/
namespace MS
open PySem PySem.Spec PyProof.Rows L2 MX
def ins (l : List Int) : PV := .lst (l.map PV.int)
theorem cut_ints (l : List Int) (lo hi : Option Int) : ∃ l' : List Int, cutP (l.map PV.int) lo hi = l'.map PV.int ∧ l'.length ≤ l.length := by
  unfold cutP
  refine ⟨(l.drop (HT.sIx (l.map PV.int).length 0 lo)).take (HT.sIx (l.map PV.int).length (l.map PV.int).length hi - HT.sIx (l.map PV.int).length 0 lo), by rw [List.map_take, List.map_drop], ?_⟩
  rw [List.length_take, List.length_drop]; omega
theorem toDs_ints : ∀ l : List Int, toDs (l.map PV.int) = some (l.map PyData.int)
  | [] => rfl
  | a :: l => by simp [toDs, toDs_ints l, toD]
theorem ne_ints {l : List Int} {S : Sto} : vNe (ins l) (.lst []) S = some (.bl (!l.isEmpty), S) := by
  have h1 : ∀ l : List Int, PyData.canLayAll0 (l.map PyData.int) = true := fun l => by
    induction l with
    | nil => rfl
    | cons a l ih => simp [PyData.canLayAll0, PyData.canLay0, ih]
  have h2 : ∀ l : List Int, PyData.depthAll (l.map PyData.int) = 0 := fun l => by
    induction l with
    | nil => rfl
    | cons a l ih => simp [PyData.depthAll, PyData.depth, ih]
  have d1 : dOf S (ins l) = some (.list (l.map PyData.int)) := by
    show (toDs (l.map PV.int)).map PyData.list = _
    rw [toDs_ints]; rfl
  have d2 : dOf S (.lst []) = some (.list []) := rfl
  have sh : SeqAt.shaped (.list (l.map PyData.int)) = true := by
    unfold SeqAt.shaped
    simp [PyData.canLay0, PyData.depth, h1, h2]
  unfold vNe
  rw [d1, d2]
  show (if _ ∧ _ then _ else _) = _
  rw [if_pos ⟨sh, rfl⟩]
  congr 3
  cases l <;> rfl
theorem begun_run {ns : List Int} {k : Nat} (S : Sto) (hn : ns.length ≤ 63) (hk : k < 100) : ∃ l sd cs, bodyF 6 t_l_begun [ins ns, .int (k : Nat)] S = .ok (.ref S.length) (S ++ [mach l sd cs 0]) ∧ cs ≠ [] := by
  obtain ⟨c1, a1, b1⟩ := cut_ints ns (some (k : Nat)) none
  obtain ⟨c2, a2, b2⟩ := cut_ints ns none (some (k : Nat))
  have f1 : vSl (ins ns) (some (k : Nat)) none S = some (ins c1, S) := by
    show some (PV.lst (cutP (ns.map PV.int) (some (k : Nat)) none), S) = _
    rw [a1]; rfl
  have f2 : vSl (ins ns) none (some (k : Nat)) S = some (ins c2, S) := by
    show some (PV.lst (cutP (ns.map PV.int) none (some (k : Nat))), S) = _
    rw [a2]; rfl
  have addL : ∀ (x y : List Int), x.length + y.length ≤ 1000 → vAdd (ins x) (ins y) S = some (ins (x ++ y), S) := fun x y h => by
    show (if (x.map PV.int).length + (y.map PV.int).length ≤ sizeLine then _ else _) = _
    rw [if_pos (by rw [List.length_map, List.length_map]; exact Nat.le_trans h (by decide)), ← List.map_append]; rfl
  have f3 := addL c1 c2 (by omega)
  obtain ⟨cs, ecs⟩ : ∃ cs, cs = c1 ++ c2 := ⟨_, rfl⟩
  have hcs : cs.length ≤ 126 := by rw [ecs, List.length_append]; omega
  rw [← ecs] at f3
  have f4 : vPow (.int 10) (.int 18) S = some (.int 1000000000000000000, S) := rfl
  have g0 := lcL_map (sp := [some (ins ns), some (.int (k : Nat)), some (ins cs), none, none, none]) (t := sgName 5) (c := t_l_begun_1) (te := t_l_begun_2) (S := S) PV.int PV.int (fun x => decide ((1000000000000000000 : Int) ≤ x)) cs fun x hx => ⟨_, rfl, by simp only [t_l_begun_1]; simp [f4], fun _ => by simp [t_l_begun_2]⟩
  obtain ⟨gs, egs⟩ : ∃ gs, gs = cs.filter fun x => decide ((1000000000000000000 : Int) ≤ x) := ⟨_, rfl⟩
  rw [← egs] at g0
  have hgs : gs.length ≤ 126 := by rw [egs]; exact Nat.le_trans (List.length_filter_le _ _) hcs
  have g1 := sxLc_fz (is := [5]) (t := sgName 5) (c := t_l_begun_1) (te := t_l_begun_2) (ti := siSeq (sxVar 2)) (sp := [some (ins ns), some (.int (k : Nat)), some (ins cs), none, none, none]) (S := S) (S1 := S) (by unfold ins; simp) g0 (fits_of (by rw [List.length_map]; omega))
  obtain ⟨sp', S', l1, rfl, sd, rfl⟩ := forL_inv0 (t := sgName 5) (b := t_l_begun_3) (fun _ sp S' => S' = S ∧ ∃ (sd : Int), sp = [some (ins ns), some (.int (k : Nat)), some (ins cs), some (ins gs), some (.int sd), none]) (xs := cs.map PV.int)
    (sp := [some (ins ns), some (.int (k : Nat)), some (ins cs), some (ins gs), some (.int (89 + (k : Nat))), none]) (S := S) ⟨rfl, _, rfl⟩ (fun j x sp S' hx ⟨e1, sd, e2⟩ => by
      subst e1 e2
      obtain ⟨y, q, rfl⟩ := map_get hx
      have m1 := mulI (a := sd) (b := 48271) (S := S') (.inr ⟨by omega, by omega⟩)
      have m2 := modI (a := sd * 48271 + y) (b := 2147483647) (S := S') (by omega)
      refine ⟨_, [some (ins ns), some (.int (k : Nat)), some (ins cs), some (ins gs), some (.int ((sd * 48271 + y).fmod 2147483647)), none], S', rfl, .inl ?_, rfl, _, rfl⟩
      unfold t_l_begun_3
      refine (end_of (sp' := [some (ins ns), some (.int (k : Nat)), some (ins cs), some (ins gs), some (.int ((sd * 48271 + y).fmod 2147483647)), some (.int y)]) ?_).trans rfl
      simp [m1, m2, addI])
  have h1 := ne_ints (l := gs) (S := S')
  have h2 := mulI (a := 29) (b := (k : Nat)) (S := S') (.inl ⟨by omega, by omega⟩)
  have h3 := addL cs [29 * ((k : Nat) : Int) + 7] (by simp; omega)
  have g1' : (sxLc fzL (siSeq (sxVar 2)) [5] (sgName 5) t_l_begun_1 t_l_begun_2) [some (ins ns), some (.int (k : Nat)), some (ins cs), none, none, none] S' = .ok (ins gs) S' := g1
  have key : ∀ l : Int, (sxIf (stB (sx2 vNe (sxVar 3) (sxN vLst saNil))) (sx2 vItem (sxVar 3) (sxC (.int 0))) (sxC (.int 0))) [some (ins ns), some (.int (k : Nat)), some (ins cs), some (ins gs), some (.int sd), none] S' = .ok (.int l) S' → bodyF 6 t_l_begun [ins ns, .int (k : Nat)] S' = .ok (.ref S'.length) (S' ++ [mach l sd (cs ++ [29 * ((k : Nat) : Int) + 7]) 0]) := fun l hl => by
    have h3' : vAdd (ins cs) (.lst [.int (29 * ((k : Nat) : Int) + 7)]) S' = some (ins (cs ++ [29 * ((k : Nat) : Int) + 7]), S') := h3
    have l1' : forL (sgName 5) t_l_begun_3 (cs.map PV.int) [some (ins ns), some (.int (k : Nat)), some (ins cs), some (ins gs), some (.int (89 + (k : Nat))), none] S' = _ := l1
    have src : srcOf (ins cs) S' = .ok (.items (cs.map PV.int)) S' := rfl
    have wp : ssWp [5] (ssFor (siSeq (sxVar 2)) (sgName 5) t_l_begun_3) [some (ins ns), some (.int (k : Nat)), some (ins cs), some (ins gs), some (.int (89 + (k : Nat))), none] S' = .nx [some (ins ns), some (.int (k : Nat)), some (ins cs), some (ins gs), some (.int sd), none] S' := by
      unfold ssWp
      rw [s_ssFor]
      exact l1'
    simp only [t_l_begun]
    simp [wp, -s_sxLc, -s_sxIf, -s_srcOf, f1, f2, f3, g1', addI, hl, h2, h3', sxDisp, saPairs]
    rfl
  cases hg : gs with
  | nil =>
    rw [hg] at h1
    exact ⟨0, sd, cs ++ [29 * ((k : Nat) : Int) + 7], key 0 (by rw [hg]; simp [h1]), by simp⟩
  | cons g r =>
    rw [hg] at h1
    have i0 : vItem (ins (g :: r)) (.int 0) S' = some (.int g, S') := it_lst (i := 0) (xs := (g :: r).map PV.int) rfl
    exact ⟨g, sd, cs ++ [29 * ((k : Nat) : Int) + 7], key g (by rw [hg]; simp [-s_vItem, h1, i0]), by simp⟩
theorem begun_ok {ns : List Int} {k : Nat} {S : Sto} (hn : ns.length ≤ 63) (hk : k < 100) : ∃ m, m_l_begun [ins ns, .int (k : Nat)] S = .ok (.ref S.length) (S ++ [m]) ∧ Ma S.length 0 (S ++ [m]) := by
  obtain ⟨l, sd, cs, e, hc⟩ := begun_run (ns := ns) [] hn hk
  have hb : belows 0 [ins ns, .int (k : Nat)] = true := by
    simp only [belows, below, Bool.and_true]
    exact RF.b (e := eL eI) ns
  have q : p_l_begun [ins ns, .int (k : Nat)] = .ok (mach l sd cs 0) := by
    unfold p_l_begun makeF
    rw [if_pos hb, e]
    have := mach_b (l := l) (sd := sd) (cs := cs) (sp := 0)
    unfold mach at this ⊢
    simp only [List.nil_append, List.length_nil, List.getElem?_cons_zero]
    rw [if_pos this]
  refine ⟨mach l sd cs 0, ?_, l, sd, cs, 0, by simp, hc, by omega, by omega⟩
  unfold m_l_begun liftK
  rw [q]
end MS

end

section
/-! All runs of a small lot. -/
namespace MS
open PySem PySem.Spec PyProof.Rows L2 MX
theorem cntf (k : Int) : ∀ l : List Int, (l.filter fun x => eqB x k).length = l.count k
  | [] => rfl
  | a :: l => by
    rw [List.filter_cons, List.count_cons]
    by_cases h : a = k
    · subst h; simp [cntf a l]
    · have h2 : eqB a k = false := by simpa using h
      simp [h, h2, cntf k l]
def ext1 (L : Lot) (r : List Int) (k : Nat) : List (List Int) := if r.count (ci k) < (dd L k).length + 1 then [r ++ [ci k]] else []
def ext (L : Lot) (r : List Int) : List (List Int) := (List.range L.length).flatMap (ext1 L r)
structure RowI (L : Lot) (t : Nat) (r : List Int) : Prop where
  len : r.length = t
  rg : ∀ x ∈ r, 0 ≤ x ∧ x < (L.length : Int)
  cnt : ∀ k, k < L.length → r.count (ci k) ≤ (dd L k).length + 1
theorem ext_ok {L : Lot} {t : Nat} {r r' : List Int} (h : RowI L t r) (hr : r' ∈ ext L r) : RowI L (t + 1) r' := by
  unfold ext ext1 at hr
  obtain ⟨k, hk, hr⟩ := List.mem_flatMap.mp hr
  have hk := List.mem_range.mp hk
  split at hr
  · rename_i hc
    rw [List.mem_singleton.mp hr]
    refine ⟨by simp [h.len], fun x hx => ?_, fun j hj => ?_⟩
    · rcases List.mem_append.mp hx with hx | hx
      · exact h.rg x hx
      · rw [List.mem_singleton.mp hx]; unfold ci; omega
    · rw [List.count_append, List.count_singleton]
      by_cases e : j = k
      · subst e; simp; omega
      · have e2 : ¬ (ci k == ci j) = true := by simp [ci]; omega
        rw [if_neg e2]
        exact h.cnt j hj
  · cases hr
theorem ext_len {L : Lot} {r : List Int} : (ext L r).length ≤ L.length := by
  have := flat_len (f := ext1 L r) (B := 1) (List.range L.length) fun k _ => by unfold ext1; split <;> simp
  rw [List.length_range] at this
  unfold ext; omega
theorem turns {L : Lot} {step : Int → List (List Int) → RR (List (List Int))} (h2 : L.length ≤ 2)
    (hs : ∀ x rows, rows.length ≤ 512 → (∀ r ∈ rows, r.length ≤ 100) → step x rows = .ok (rows.flatMap (ext L))) :
    ∀ (l : List Int) (t : Nat) (rows : List (List Int)), (∀ r ∈ rows, RowI L t r) → rows.length * 2 ^ l.length ≤ 512 → t + l.length ≤ 100 → ∃ rows', foldR step l rows = .ok rows' ∧ ∀ r ∈ rows', RowI L (t + l.length) r
  | [], t, rows, h, _, _ => ⟨rows, rfl, h⟩
  | x :: l, t, rows, h, hz, ht => by
    rw [List.length_cons] at hz ht ⊢
    rw [Nat.pow_succ] at hz
    have hp : 1 ≤ 2 ^ l.length := Nat.one_le_two_pow
    have hz1 : rows.length ≤ 512 := by
      have : rows.length * 1 ≤ rows.length * (2 ^ l.length * 2) := Nat.mul_le_mul_left _ (by omega)
      omega
    have e := hs x rows hz1 (fun r hr => by rw [(h r hr).len]; omega)
    have hl := flat_len (f := ext L) (B := 2) rows fun r _ => Nat.le_trans ext_len h2
    obtain ⟨rows', e1, h1⟩ := turns h2 hs l (t + 1) (rows.flatMap (ext L)) (fun r hr => by
      obtain ⟨q, hq, hr⟩ := List.mem_flatMap.mp hr
      exact ext_ok (h q hq) hr) (by
      have := Nat.mul_le_mul_right (2 ^ l.length) hl
      rw [Nat.mul_assoc, Nat.mul_comm 2] at this
      omega) (by omega)
    refine ⟨rows', ?_, fun r hr => by rw [show t + (l.length + 1) = t + 1 + l.length by omega]; exact h1 r hr⟩
    unfold foldR
    rw [e]
    exact e1
theorem range_sum (n : Nat) : ∀ r : List Int, (∀ x ∈ r, 0 ≤ x ∧ x < (n : Int)) → ((List.range n).map fun k => r.count (ci k)).sum = r.length
  | [], _ => by
    have : ∀ l : List Nat, (l.map fun k => ([] : List Int).count (ci k)).sum = 0 := fun l => by
      induction l with
      | nil => rfl
      | cons a l ih => simpa using ih
    exact this _
  | x :: r, h => by
    have ih := range_sum n r fun y hy => h y (by simp [hy])
    obtain ⟨x0, x1⟩ := h x (by simp)
    have key : ∀ l : List Nat, l.Nodup → (l.map fun k => (x :: r).count (ci k)).sum = (l.map fun k => r.count (ci k)).sum + if x.toNat ∈ l then 1 else 0 := fun l => by
      induction l with
      | nil => intro _; rfl
      | cons a l ih =>
        intro hn
        obtain ⟨h1, h2⟩ := List.nodup_cons.mp hn
        have ih := ih h2
        rw [List.map_cons, List.sum_cons, ih, List.map_cons, List.sum_cons, List.count_cons]
        by_cases e : x.toNat = a
        · subst e
          rw [if_neg h1, if_pos (by simp [ci]; omega), if_pos (by simp)]
          omega
        · have e2 : ¬ (x == ci a) = true := by simp [ci]; omega
          rw [if_neg e2]
          by_cases q : x.toNat ∈ l
          · rw [if_pos q, if_pos (by simp [q])]; omega
          · rw [if_neg q, if_neg (by simp [q, e])]; omega
    rw [key _ List.nodup_range, ih, if_pos (List.mem_range.mpr (by omega)), List.length_cons]
theorem eq_of_sum {f g : Nat → Nat} : ∀ n : Nat, (∀ k, k < n → f k ≤ g k) → ((List.range n).map f).sum = ((List.range n).map g).sum → ∀ k, k < n → f k = g k
  | 0, _, _, k, hk => by omega
  | n + 1, h, e, k, hk => by
    have le : ∀ m, m ≤ n + 1 → ((List.range m).map f).sum ≤ ((List.range m).map g).sum := fun m => by
      induction m with
      | zero => intro _; simp
      | succ m ih =>
        intro hm
        have := ih (by omega)
        have := h m (by omega)
        rw [List.range_succ, List.map_append, List.map_append, List.sum_append_nat, List.sum_append_nat]
        simp; omega
    rw [List.range_succ, List.map_append, List.map_append, List.sum_append_nat, List.sum_append_nat] at e
    have h1 := le n (by omega)
    have h2 := h n (by omega)
    simp at e
    by_cases q : k = n
    · subst q; omega
    · exact eq_of_sum n (fun j hj => h j (by omega)) (by omega) k (by omega)
theorem lot_range (L : Lot) : (L.map fun d => d.length + 1) = (List.range L.length).map fun k => (dd L k).length + 1 := by
  refine List.ext_getElem? fun i => ?_
  rw [List.getElem?_map, List.getElem?_map]
  by_cases h : i < L.length
  · rw [List.getElem?_range h, dd_get h]; rfl
  · rw [List.getElem?_eq_none (by omega), List.getElem?_eq_none (by simp; omega)]; rfl
theorem row_co {L : Lot} {r : List Int} (hL : LoOk L) (h : RowI L ((L.map fun d => d.length + 1).sum) r) : CoOk L r where
  n5 := hL.n5
  d5 := fun d hd => (hL.de d hd).2.2
  cr := h.rg
  cnt := by
    have e := range_sum L.length r h.rg
    rw [h.len, lot_range] at e
    exact fun k hk => eq_of_sum L.length h.cnt e k hk
  cl := by rw [h.len]; exact total_le hL
  sum := by rw [sum_ci, h.len]
theorem all_runs_ok {L : Lot} (hL : LoOk L) (h2 : L.length ≤ 2) (h3 : ∀ d ∈ L, d.length ≤ 3) : ∃ rows, n_l_all_courses L = .ok rows ∧ ∀ r ∈ rows, CoOk L r := by
  have n5 := hL.n5
  have ht := total_le hL
  have h8 : (L.map fun d => d.length + 1).sum ≤ 8 := by
    have h1 : ∀ l : Lot, (∀ d ∈ l, d.length ≤ 3) → (l.map fun d => d.length + 1).sum ≤ 4 * l.length := fun l => by
      induction l with
      | nil => intro _; exact Nat.le_refl _
      | cons a l ih =>
        intro hl
        have := hl a (List.mem_cons_self ..)
        have := ih fun x hx => hl x (List.mem_cons_of_mem _ hx)
        simp only [List.map_cons, List.sum_cons, List.length_cons]
        omega
    have := h1 L h3
    omega
  unfold n_l_all_courses
  rw [fitR_ok (by rw [List.length_map]; omega), RR.bnd_ok, RR.bnd_ok, RR.bnd_ok, sum_ci, rng1_ok (by omega), RR.bnd_ok]
  obtain ⟨rows, e, h⟩ := turns (L := L) h2 (step := fun v6 v7 => (RR.bnd (foldR (fun v9 v10 => (RR.bnd (rng1R (L.length : Int)) fun v25 => RR.bnd (foldR (fun v12 v13 => (RR.bnd (RR.bnd (RR.bnd (fitR (List.map (fun v14 => v14) (List.filter (fun v14 => (eqB v14 v12)) v9))) fun v15 => RR.ok (v15.length : Int)) fun v19 => RR.bnd (RR.bnd (RR.bnd (RR.ofO (atI L v12)) fun v16 => RR.ok (v16.length : Int)) fun v17 => RR.bnd (.ok (1 : Int)) fun v18 => RR.ok (v17 + v18)) fun v20 => RR.ok (decide (v19 < v20))) fun v23 => if v23 = true then (RR.bnd (fitR (v9 ++ [v12])) fun v22 => (if v13.length < sizeLine then .ok (v13 ++ [v22]) else .stuck)) else .ok v13)) v25 v10) fun v24 => .ok v24)) v7 ([] : List (List Int))) fun v26 => .ok v26))
    (fun x rows hr1 hr2 => by
      rw [foldR_acc (f := ext L) (B := 2) (M := 2000)]
      · rfl
      · intro r hr acc ha
        rw [rng1_ok (by omega), RR.bnd_ok, foldR_acc (f := fun k : Int => ext1 L r k.toNat) (B := 1) (M := 2000)]
        · rw [RR.bnd_ok, List.flatMap_map]; rfl
        · intro k hk acc2 ha2
          obtain ⟨j, hj, rfl⟩ := List.mem_map.mp hk
          have hj := List.mem_range.mp hj
          have hrl := hr2 r hr
          have c1 := List.count_le_length (a := (j : Int)) (l := r)
          simp only [List.map_id']
          rw [fitR_ok (by rw [cntf]; omega), RR.bnd_ok, lot_get hj, RR.ofO_some, RR.bnd_ok, RR.bnd_ok, RR.bnd_ok, RR.bnd_ok, cntf, RR.bnd_ok]
          unfold ext1
          by_cases q : r.count (ci j) < (dd L j).length + 1
          · have q' : decide ((r.count (j : Int) : Int) < ((dd L j).length : Int) + 1) = true := by rw [decide_eq_true_eq]; unfold ci at q; omega
            rw [RR.bnd_ok, q', if_pos rfl, Int.toNat_natCast, if_pos q, fitR_ok (by simp; omega), RR.bnd_ok]
            exact if_pos (Nat.lt_of_lt_of_le (show acc2.length < 2001 by omega) (by decide))
          · have q' : decide ((r.count (j : Int) : Int) < ((dd L j).length : Int) + 1) = false := by rw [decide_eq_false_iff_not]; unfold ci at q; omega
            rw [RR.bnd_ok, q', if_neg (by simp), Int.toNat_natCast, if_neg q, List.append_nil]
        · intro k _; unfold ext1; split <;> simp
        · simp; omega
      · intro r _; exact Nat.le_trans ext_len h2
      · simp; omega)
    ((List.range ((L.map fun d => d.length + 1).sum)).map fun i : Nat => (i : Int)) 0 [[]] (fun r hr => by
      rw [List.mem_singleton.mp hr]
      exact ⟨rfl, by simp, by simp⟩) (by
      rw [List.length_map, List.length_range, List.length_singleton, Nat.one_mul]
      exact Nat.le_trans (Nat.pow_le_pow_right (by decide) h8) (by decide)) (by simp; omega)
  rw [e]
  refine ⟨rows, rfl, fun r hr => row_co hL ?_⟩
  have := h r hr
  rwa [List.length_map, List.length_range, Nat.zero_add] at this
end MS

end

section
namespace K06
open PySem PySem.Spec PyProof.Rows L2 MX MS
theorem hand_n : n_l_hand = .ok true := isT_ok (by decide +kernel)
theorem call_p {p : List PV → RR PV} {as : List PV} {v : PV} (h : p as = .ok v) (S : Sto) : liftP p as S = .ok v S := by
  unfold liftP; rw [h]
theorem hand_ok (S : Sto) : m_l_hand [] S = .ok (.bl true) S := by
  have x := x_l_hand
  rw [hand_n] at x
  exact call_p x S
theorem right_n {L : Lot} {lv : List W} {c : List Int} (h : AllOk L lv c) : n_l_right L lv c = .ok true := by
  obtain ⟨r, e1⟩ := repr_in h
  obtain ⟨q, e2⟩ := repr_two (sd_arrows (lv := lv) h.toOkc) (by decide) (by decide)
  unfold n_l_right
  rw [e1, RR.bnd_ok, RR.bnd_ok, RR.bnd_ok, clocks_ok h.toOkc, RR.bnd_ok, l_arrows_ok h.toOkc h.lvl, RR.bnd_ok, RR.bnd_ok, arrows_ok h, RR.bnd_ok, RR.bnd_ok, RR.bnd_ok, RR.bnd_ok, arrows_same, RR.bnd_ok, fitR_ok (by simp), RR.bnd_ok, e2]
  simp [eqB]
theorem right_ok {L : Lot} {lv : List W} {c : List Int} (h : AllOk L lv c) (S : Sto) : m_l_right [loP L, lvP lv, eV eI c] S = .ok (.bl true) S := by
  have x := x_l_right L lv c
  rw [right_n h] at x
  exact call_p x S
theorem runs_ok {L : Lot} (hL : LoOk L) (h2 : L.length ≤ 2) (h3 : ∀ d ∈ L, d.length ≤ 3) (S : Sto) : ∃ rows, m_l_all_courses [loP L] S = .ok (eL (eV eI) rows) S ∧ ∀ r ∈ rows, CoOk L r := by
  obtain ⟨rows, e, h⟩ := all_runs_ok hL h2 h3
  refine ⟨rows, ?_, h⟩
  have x := x_l_all_courses L
  rw [e] at x
  exact call_p x S
theorem turn1 {S : Sto} {i : Nat} {n : Int} {L : Lot} {a b c e f g : Option PV} (hL : LoOk L) (h : Ma i n S) (hn : n < 900000000) :
    ∃ S' : Sto, t_law_1 [a, b, some (.ref i), some (loP L), c, e, f, g] S = .nx [a, b, some (.ref i), some (loP L), none, none, f, g] S' ∧ Ma i (n + 100) S' := by
  obtain ⟨co, S1, e1, h1, m1, c1, k1⟩ := course_ok hL h (by omega)
  obtain ⟨lv, S2, e2, ⟨n2, l2⟩, m2, c2, k2⟩ := tiers_ok hL.n5 m1 (by omega)
  have r1 := right_ok (all_ok hL h1.toOkc h1.sum n2 l2) S2
  obtain ⟨lv', S3, e3, ⟨n3, l3⟩, m3, c3, k3⟩ := tiers_ok hL.n5 m2 (by omega)
  have r2 := right_ok (all_ok hL h1.toOkc h1.sum n3 l3) S3
  refine ⟨S3, ?_, m3.mono (by omega)⟩
  unfold t_law_1
  refine (end_of (sp' := [a, b, some (.ref i), some (loP L), c, some (eV eI co), f, g]) ?_).trans rfl
  simp [e1, e2, r1, e3, r2]
theorem turn2 {S : Sto} {L : Lot} {lv : List W} {r : List Int} {a b c d e : Option PV} (h : AllOk L lv r) :
    t_law_2 [a, b, c, d, e, some (eV eI r), some (loP L), some (lvP lv)] S = .nx [a, b, c, d, e, none, some (loP L), some (lvP lv)] S := by
  have r1 := right_ok h S
  unfold t_law_2
  refine (end_of (sp' := [a, b, c, d, e, some (eV eI r), some (loP L), some (lvP lv)]) ?_).trans rfl
  simp [r1]
theorem turn3 {ns : List Int} {S : Sto} {j : Nat} (hn : ns.length ≤ 63) (hj : j < 9) :
    ∃ S' : Sto, t_law_3 [some (ins ns), some (.int (j : Nat)), none, none, none, none, none, none] S = .nx [some (ins ns), none, none, none, none, none, none, none] S' := by
  obtain ⟨m, b1, b2⟩ := begun_ok (ns := ns) (k := j) (S := S) hn (by omega)
  obtain ⟨L, S2, c1, ⟨hL, _, _⟩, m2, _, _⟩ := crew_ok (many := 5) (long := 5) b2 (by omega) (by decide) (by decide) (by decide) (by decide)
  obtain ⟨sp', S', q1, q2, q3⟩ := forL_inv0 (t := sgName 4) (b := t_law_1) (fun jj sp S' => (jj ≤ 6 → Ma S.length (0 + 100 + 100 * jj) S') ∧ sp = [some (ins ns), some (.int (j : Nat)), some (.ref S.length), some (loP L), none, none, none, none]) (xs := rngP 0 6)
    (sp := [some (ins ns), some (.int (j : Nat)), some (.ref S.length), some (loP L), none, none, none, none]) (S := S2) ⟨fun _ => m2.mono (by omega), rfl⟩ (fun jj x sp S' hx ⟨q1, q2⟩ => by
      subst q2
      obtain ⟨hjj, rfl⟩ := rngP_get hx
      obtain ⟨S'', t1, t2⟩ := turn1 (a := some (ins ns)) (b := some (.int (j : Nat))) (c := some (.int (0 + (jj : Nat)))) (e := none) (f := none) (g := none) hL (q1 (by omega)) (by omega)
      exact ⟨_, _, S'', rfl, .inl t1, fun _ => t2.mono (by omega), rfl⟩)
  subst q3
  have q2 := q2 (by simp [rngP_length])
  rw [rngP_length] at q2
  obtain ⟨F, S3, d1, ⟨hF, f2, f3⟩, m3, _, _⟩ := crew_ok (many := 2) (long := 3) q2 (by omega) (by decide) (by decide) (by decide) (by decide)
  obtain ⟨lv, S4, e1, ⟨n4, l4⟩, m4, _, _⟩ := tiers_ok hF.n5 m3 (by omega)
  obtain ⟨rows, u1, u2⟩ := runs_ok hF f2 f3 S4
  obtain ⟨sp', S5, w1, w2, w3⟩ := forL_inv0 (t := sgName 5) (b := t_law_2) (fun jj sp S' => S' = S4 ∧ sp = [some (ins ns), some (.int (j : Nat)), some (.ref S.length), some (loP L), none, none, some (loP F), some (lvP lv)]) (xs := rows.map (eV eI))
    (sp := [some (ins ns), some (.int (j : Nat)), some (.ref S.length), some (loP L), none, none, some (loP F), some (lvP lv)]) (S := S4) ⟨rfl, rfl⟩ (fun jj x sp S' hx ⟨q1, q2⟩ => by
      subst q1 q2
      obtain ⟨r, hr, rfl⟩ := map_get hx
      have ho := u2 r (List.mem_of_getElem? hr)
      exact ⟨_, _, _, rfl, .inl (turn2 (all_ok hF ho.toOkc ho.sum n4 l4)), rfl, rfl⟩)
  subst w2 w3
  have r1 : siRange1 (sxC (.int 6)) [some (ins ns), some (.int (j : Nat)), some (.ref S.length), some (loP L), none, none, none, none] S2 = .ok (.items (rngP 0 6)) S2 := rng1 (n := 6) (by simp) (by omega)
  have p1 : ssWp [4, 5] (ssFor (siRange1 (sxC (.int 6))) (sgName 4) t_law_1) [some (ins ns), some (.int (j : Nat)), some (.ref S.length), some (loP L), none, none, none, none] S2 = .nx [some (ins ns), some (.int (j : Nat)), some (.ref S.length), some (loP L), none, none, none, none] S' := by
    show ssFor (siRange1 (sxC (.int 6))) (sgName 4) t_law_1 [some (ins ns), some (.int (j : Nat)), some (.ref S.length), some (loP L), none, none, none, none] S2 = _
    rw [s_ssFor, r1]
    exact q1
  have p2 : ssWp [5] (ssFor (siSeq (sxCall 1 m_l_all_courses (saCons (sxVar 6) saNil))) (sgName 5) t_law_2) [some (ins ns), some (.int (j : Nat)), some (.ref S.length), some (loP L), none, none, some (loP F), some (lvP lv)] S5 = .nx [some (ins ns), some (.int (j : Nat)), some (.ref S.length), some (loP L), none, none, some (loP F), some (lvP lv)] S5 := by
    show ssFor (siSeq (sxCall 1 m_l_all_courses (saCons (sxVar 6) saNil))) (sgName 5) t_law_2 [some (ins ns), some (.int (j : Nat)), some (.ref S.length), some (loP L), none, none, some (loP F), some (lvP lv)] S5 = _
    have : siSeq (sxCall 1 m_l_all_courses (saCons (sxVar 6) saNil)) [some (ins ns), some (.int (j : Nat)), some (.ref S.length), some (loP L), none, none, some (loP F), some (lvP lv)] S5 = .ok (.items (rows.map (eV eI))) S5 := by
      have c : sxCall 1 m_l_all_courses (saCons (sxVar 6) saNil) [some (ins ns), some (.int (j : Nat)), some (.ref S.length), some (loP L), none, none, some (loP F), some (lvP lv)] S5 = .ok (eL (eV eI) rows) S5 := by simp [u1]
      unfold siSeq
      rw [c]; rfl
    rw [s_ssFor, this]
    exact w1
  refine ⟨S5, ?_⟩
  unfold t_law_3
  refine (end_of (sp' := [some (ins ns), some (.int (j : Nat)), some (.ref S.length), some (loP L), none, none, some (loP F), some (lvP lv)]) ?_).trans rfl
  have c1' : m_l_crew [.ref S.length, .int 5, .int 5] (S ++ [m]) = .ok (loP L) S2 := c1
  have d1' : m_l_crew [.ref S.length, .int 2, .int 3] S' = .ok (loP F) S3 := d1
  simp [b1, c1', p1, d1', e1, p2]
theorem law_pure (ns : List Int) (hn : ns.length ≤ 63) : ∃ S', m_law [.lst (ns.map PV.int)] [] = .ok (.bl true) S' := by
  obtain ⟨t, ht⟩ : ∃ t, t = 3 + min ns.length 6 := ⟨_, rfl⟩
  obtain ⟨sp', S', l1, rfl⟩ := forL_inv0 (t := sgName 1) (b := t_law_3) (fun _ sp S' => sp = [some (ins ns), none, none, none, none, none, none, none]) (xs := rngP 0 t)
    (sp := [some (ins ns), none, none, none, none, none, none, none]) (S := []) rfl (fun j x sp S hx e2 => by
      subst e2
      obtain ⟨hj, rfl⟩ := rngP_get hx
      rw [Int.zero_add]
      obtain ⟨S', e⟩ := turn3 (ns := ns) (S := S) (j := j) hn (by omega)
      exact ⟨_, _, S', rfl, .inl e, rfl⟩)
  have h2 := hand_ok S'
  have r1 : siRange1 (sx2 vAdd (sxC (.int 3)) (sxN vMin2 (saCons (sxN vLen (saCons (sxVar 0) saNil)) (saCons (sxC (.int 6)) saNil)))) [some (ins ns), none, none, none, none, none, none, none] [] = .ok (.items (rngP 0 t)) [] := by
    refine rng1 (n := t) ?_ (by omega)
    have e : ((3 : Int) + if (6 : Int) < (ns.length : Int) then (6 : Int) else (ns.length : Int)) = (t : Int) := by split <;> omega
    unfold ins
    simp [addI, e, MX.seqOf]
  refine ⟨S', ?_⟩
  have A : ssWp [1, 2, 3, 4, 5, 6, 7] (ssFor (siRange1 (sx2 vAdd (sxC (.int 3)) (sxN vMin2 (saCons (sxN vLen (saCons (sxVar 0) saNil)) (saCons (sxC (.int 6)) saNil))))) (sgName 1) t_law_3) [some (ins ns), none, none, none, none, none, none, none] [] = .nx [some (ins ns), none, none, none, none, none, none, none] S' := by
    show ssFor (siRange1 (sx2 vAdd (sxC (.int 3)) (sxN vMin2 (saCons (sxN vLen (saCons (sxVar 0) saNil)) (saCons (sxC (.int 6)) saNil))))) (sgName 1) t_law_3 [some (ins ns), none, none, none, none, none, none, none] [] = _
    rw [s_ssFor, r1]
    exact l1
  have T : t_law [some (ins ns), none, none, none, none, none, none, none] [] = .rt (.bl true) S' := by
    unfold t_law
    rw [s_ssSeq, A]
    show ssRet _ _ _ = _
    simp [h2]
  unfold m_law bodyF
  rw [show startP 8 [PV.lst (ns.map PV.int)] = [some (ins ns), none, none, none, none, none, none, none] from rfl, T]
end K06

end

section
set_option maxHeartbeats 0
open PySem PySem.W PySem.Calls PyProof.Rows
theorem PySem.Challenge.cw_mixedlevels_k06_whole_arrows_holds : PySem.Challenge.rw_mixedlevels_k06_whole_arrows.Holds := by
  w_on; o_law
  refine HandSHeadRun.head_any (r := OpenLaw.row PySem.Challenge.rw_mixedlevels_k06_whole_arrows) (q := view (OpenLaw.row PySem.Challenge.rw_mixedlevels_k06_whole_arrows).prog [62]) (H := K06.hk) (ob := K06.ob) (M := 4000) (loose := K06.loose) (d := HandSHeadRun.topDef (OpenLaw.row PySem.Challenge.rw_mixedlevels_k06_whole_arrows).prog 62) (kwd := []) K06.ob_eq
    (by kernel_rfl) (fun s => by kernel_rfl) K06.run (by kernel_rfl) (by kernel_rfl) (by kernel_rfl) (by rfl) (by first | assumption | decide +kernel) (by decide +kernel) ⟨rfl, rfl, rfl, rfl, rfl, by decide +kernel⟩ ?hw ?hc
  case hw => w_witness2
  case hc =>
    refine MX.law_walk (l := PySem.Challenge.rw_mixedlevels_k06_whole_arrows) (n := 63) (k := 12) (x := "_law_script") rfl (by decide) (by kernel_rfl) ⟨rfl, by decide, by decide⟩ ?F
    intro w mg fa h Y G hmg0
    obtain ⟨K, KX, c⟩ := Y
    have hmg : mg ("law" : PySem.Str) = some (.ref fa) := by
      have e : (HandSHeadRun.topDef (OpenLaw.row PySem.Challenge.rw_mixedlevels_k06_whole_arrows).prog 62).name = ("law" : PySem.Str) := by kernel_rfl
      rw [← e]
      exact hmg0
    have T := K06.txt KX G c
    have e := hmg.symm.trans T.g_law
    cases e
    exact ⟨K, _, K06.m_law, KX, fun s u => L2.FunD.bindsA (ps := ["_law_script"]) T.F_law (fun _ _ _ _ _ _ us hl => match us, hl with | [_], _ => rfl) s [u] rfl, K06.law_pure, fun base _ _ => K06.ok_law T⟩

end
