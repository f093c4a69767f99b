import PyProof.Rows.All
import HandS.ExcValue
import Wide.All
import OpenK.AllK
import Wide.FinOn
import HandS.ForMost
import HandS.Exc
import HandS.Defaults
import HandS.WordsExc
import HandS.Lambda
import HandS.SetBool
import HandS.DictComp
import HandS.HeadHook4
import KE.KNestM
import HandS.TupAny
import HandS.TupMul
import HandS.Deep
import HandS.Star
import HandS.Small
import HandS.IsInst
import HandS.Text
import HandS.Zip
import HandS.HeadEnd
import HandS.HeadHook2
import HandS.EndTab
import KE.DataMinMax
import PyProof.StrLawsRepr
import PyProof.Rows.StrJoinMade
import PyProof.Rows.StrDigitsNeg
import KE.SortData
import KE.DataCmp
import HandS.Strs
import HandS.Style
import HandS.RevTup
import HandS.Conv
import PyProof.P3In
import PyProof.EqAt
import HandS.ExcField
import HandS.ExcIs
import HandS.ExcInit
import KE.KTryMore
import KE.KExcSuper
import KE.KSuper
import KE.KExcInit
import KE.KExcIs
import KE.DataFind
import KE.KDflt
import KE.GoesZip
import KE.GoesMore
import HandS.SetFor
import PySem.Challenge.RW_mixedlevels_k25_exceptions
import KE.KStateDown
import HandS.Head0
import HandS.Head1
import HandS.Head2
import HandS.HeadHook1
import PyProof.StrLawsTight
set_option Elab.async false
set_option linter.all false
set_option maxRecDepth 100000
section
namespace MX
open PySem PySem.Spec PyProof.Rows L2
/-- a plain value: tuples and lists that nobody changes any more by their items; what is changed by its number in the store -/
inductive PV where
  | non | bl (b : Bool) | int (i : Int) | str (x : Str)
  | tup (xs : List PV) | lst (xs : List PV) | ref (n : Nat) | adr (a : Nat) (xs : List PV) (vs : List V) | dic (ks : List Key) (xs : List PV)
inductive SO where
  | lst (xs : List PV) | dct (kvs : List (Key × PV)) | dcu (kvs : List (PV × PV)) | ins (c : Str) (fs : List (Str × PV)) | exc (c : Str) (fs : List (Str × PV)) | dead
structure EX where
  cls : Str
  fs : List (Str × PV)
abbrev Sl := List (Option PV)
abbrev Sto := List SO
inductive Out (α : Type) where
  | ok (a : α) (S : Sto) | exc (x : EX) (S : Sto) | stuck
@[reducible] def Out.bind {α β : Type} (o : Out α) (f : α → Sto → Out β) : Out β := match o with
  | .ok a S => f a S
  | .exc x S => .exc x S
  | .stuck => .stuck
inductive SOut where
  | nx (sp : Sl) (S : Sto) | rt (v : PV) (S : Sto) | bk (sp : Sl) (S : Sto) | ct (sp : Sl) (S : Sto) | exc (x : EX) (sp : Sl) (S : Sto) | stuck
/-- an expression, a test, an argument list, a statement -/
abbrev Sx := Sl → Sto → Out PV
abbrev St' := Sl → Sto → Out Bool
abbrev Sa := Sl → Sto → Out (List PV)
abbrev Ss := Sl → Sto → SOut
/-- the module's names, the program, its world -/
structure MP where
  mg : Str → Option Value
  P : Program
  w : World
abbrev _root_.L2.Cx.mp (X : Cx) : MP := ⟨X.mg, X.prog, X.w⟩
/-- fz: what stays as it is for ever; m: where the things of the store stand; rs: what somebody keeps for himself for a while; tb: the tables of code objects -/
structure Gh where
  fz : Hp
  m : List Addr
  rs : Hp
  tb : List (Addr × Str)
structure Gh.le (g g' : Gh) : Prop where
  fz : ∀ a o, g.fz a = some o → g'.fz a = some o
  m : ∀ (i : Nat) (a : Addr), g.m[i]? = some a → g'.m[i]? = some a
  rs : g'.rs = g.rs
  tb : g'.tb = g.tb
theorem Gh.le.refl (g : Gh) : g.le g := ⟨fun _ _ h => h, fun _ _ h => h, rfl, rfl⟩
theorem Gh.le.trans {g g1 g2 : Gh} (a : g.le g1) (b : g1.le g2) : g.le g2 := ⟨fun x o h => b.fz x o (a.fz x o h), fun i x h => b.m i x (a.m i x h), b.rs.trans a.rs, b.tb.trans a.tb⟩
/-- values do not lean on rs, tb -/
structure Gh.lv (g g' : Gh) : Prop where
  fz : ∀ a o, g.fz a = some o → g'.fz a = some o
  m : ∀ (i : Nat) (a : Addr), g.m[i]? = some a → g'.m[i]? = some a
theorem Gh.le.lv {g g' : Gh} (l : g.le g') : g.lv g' := ⟨l.fz, l.m⟩
theorem Gh.lv.refl (g : Gh) : g.lv g := ⟨fun _ _ h => h, fun _ _ h => h⟩
theorem Gh.lv.trans {g g1 g2 : Gh} (a : g.lv g1) (b : g1.lv g2) : g.lv g2 := ⟨fun x o h => b.fz x o (a.fz x o h), fun i x h => b.m i x (a.m i x h)⟩
/-- what stands at a is no table, no code object -/
def NoTab (a : Addr) (u : HO) : Prop := (∀ ps, u ≠ .tbl ps) ∧ ∀ q, u ≠ LamX.CodeO a q
theorem noTab_lst {a : Addr} {xs : List V} : NoTab a (.lst xs) := ⟨fun _ z => (by cases z), fun _ z => (by cases z)⟩
theorem tabS_upd {H : Hp} {P a : Addr} {q : Str} {o : HO} (t : LamX.TabS H P q) (h : ∀ u, H a = some u → NoTab a u) : LamX.TabS (upd H a o) P q := by
  obtain ⟨ps, h1, h2, h3⟩ := t
  refine ⟨ps, ?_, h2, fun pos cv hc => ?_⟩
  · rw [upd_ne (fun e => by subst e; exact (h _ h1).1 ps rfl)]; exact h1
  · obtain ⟨c, e1, e2⟩ := h3 pos cv hc
    refine ⟨c, e1, ?_⟩
    rw [upd_ne (fun e => by subst e; exact (h _ e2).2 q rfl)]; exact e2
theorem Rd.mono {F F' : Hp} (h : ∀ a o, F a = some o → F' a = some o) {a : Addr} {u : HO} (r : Rd F a u) : Rd F' a u := by
  rcases r with r | ⟨o, r⟩
  · exact .inl (h _ _ r)
  · exact .inr ⟨o, h _ _ r⟩
theorem SqT.mono {K : PySem.W.Frag} {F F' : Hp} (h : ∀ a o, F a = some o → F' a = some o) {a : Addr} {xs : List V} (r : SqT K F a xs) : SqT K F' a xs := by
  rcases r with r | r
  · exact .inl (Rd.mono h r)
  · exact .inr r
theorem SqL.mono {K : PySem.W.Frag} {F F' : Hp} (h : ∀ a o, F a = some o → F' a = some o) {a : Addr} {xs : List V} (r : SqL K F a xs) : SqL K F' a xs := by
  rcases r with r | r
  · exact .inl (Rd.mono h r)
  · exact .inr r
/-- a list that is read, by its very object -/
/- a tuple of which is known that no names hang on it -/
def TpQ (K : PySem.W.Frag) (F : Hp) (a : Addr) (xs : List V) : Prop := (∃ o : Obj, F a = some (.frz o (.tup xs)) ∧ o.dict = none) ∨
  ∃ (o : Obj) (its : Array Value) (n : Nat), K.lookup a = some o ∧ o.cls = .type "tuple" ∧ o.dict = none ∧ o.data = .seq its n ∧ its.size ≤ sizeLine ∧ Vals xs its.toList
theorem TpQ.mono {K : PySem.W.Frag} {F F' : Hp} (h : ∀ a o, F a = some o → F' a = some o) {a : Addr} {xs : List V} (r : TpQ K F a xs) : TpQ K F' a xs := by
  rcases r with ⟨o, r, d⟩ | r
  · exact .inl ⟨o, h _ _ r, d⟩
  · exact .inr r
theorem TpQ.t {K : PySem.W.Frag} {F F' : Hp} (h : ∀ a o, F a = some o → F' a = some o) {a : Addr} {xs : List V} (r : TpQ K F a xs) : SqT K F' a xs := by
  rcases r with ⟨o, r, d⟩ | ⟨o, its, n, r1, r2, _, r3, r4, r5⟩
  · exact .inl (.inr ⟨o, h _ _ r⟩)
  · exact .inr ⟨o, its, n, r1, r2, r3, r4, r5⟩
def LsQ (K : PySem.W.Frag) (F : Hp) (a : Addr) (xs : List V) : Prop := Rd F a (.lst xs) ∨ ∃ (its : List Value) (n : Nat), K.lookup a = some { cls := .type "list", data := .seq its.toArray n } ∧ xs.length ≤ sizeLine ∧ Vals xs its
theorem LsQ.mono {K : PySem.W.Frag} {F F' : Hp} (h : ∀ a o, F a = some o → F' a = some o) {a : Addr} {xs : List V} (r : LsQ K F a xs) : LsQ K F' a xs := by
  rcases r with r | r
  · exact .inl (Rd.mono h r)
  · exact .inr r
theorem LsQ.sq {K : PySem.W.Frag} {F : Hp} {a : Addr} {xs : List V} (r : LsQ K F a xs) : SqL K F a xs := by
  rcases r with r | ⟨its, n, e, z, v⟩
  · exact .inl r
  · exact .inr ⟨_, its.toArray, n, e, rfl, rfl, rfl, by rw [List.size_toArray, ← v.length]; exact z, by simpa using v⟩
theorem LsQ.obj {X : Cx} {pins : List (Addr × Obj)} {σ : L2.St} {H : Hp} {s : Shared} {a : Addr} {xs : List V} (I : Inv X pins σ H s) (r : LsQ X.K H a xs) :
    ∃ (its : List Value) (n : Nat), xs.length ≤ sizeLine ∧ Vals xs its ∧ s.heap.get? a = some { cls := .type "list", data := .seq its.toArray n } := by
  rcases r with r | ⟨its, n, e, z, v⟩
  · obtain ⟨z, its, n, v, e⟩ := r.ok I.hok
    exact ⟨its, n, z, v, e⟩
  · exact ⟨its, n, z, v, I.kIn a _ e⟩
mutual
def RepV (K : PySem.W.Frag) (g : Gh) : PV → V → Prop
  | .non, v => v = .non
  | .bl b, v => v = .bl b
  | .int i, v => v = .int i
  | .str x, v => v = .str x
  | .tup xs, v => ∃ a vs, v = .ref a ∧ TpQ K g.fz a vs ∧ RepVs K g xs vs
  | .lst xs, v => ∃ a vs, v = .ref a ∧ LsQ K g.fz a vs ∧ RepVs K g xs vs
  | .ref n, v => ∃ a, v = .ref a ∧ g.m[n]? = some a
  | .adr a xs vs, v => v = .ref a ∧ RepVs K g xs vs
  | .dic ks xs, v => ∃ a vs, v = .ref a ∧ (∃ o : Obj, g.fz a = some (.frz o (.dK (ks.zip vs)))) ∧ RepVs K g xs vs
def RepVs (K : PySem.W.Frag) (g : Gh) : List PV → List V → Prop
  | [], vs => vs = []
  | x :: xs, vs => ∃ v r, vs = v :: r ∧ RepV K g x v ∧ RepVs K g xs r
end
section
variable {K : PySem.W.Frag} {g g' : Gh}
mutual
theorem RepV.monoV (l : g.lv g') : ∀ (x : PV) (v : V), RepV K g x v → RepV K g' x v
  | .non, _, h => h
  | .bl _, _, h => h
  | .int _, _, h => h
  | .str _, _, h => h
  | .tup xs, _, h => by
    obtain ⟨a, vs, e, h1, h2⟩ := h
    exact ⟨a, vs, e, TpQ.mono l.fz h1, RepVs.monoV l xs vs h2⟩
  | .lst xs, _, h => by
    obtain ⟨a, vs, e, h1, h2⟩ := h
    exact ⟨a, vs, e, LsQ.mono l.fz h1, RepVs.monoV l xs vs h2⟩
  | .ref n, _, h => by
    obtain ⟨a, e, h1⟩ := h
    exact ⟨a, e, l.m _ _ h1⟩
  | .adr _ xs vs, _, h => ⟨h.1, RepVs.monoV l xs vs h.2⟩
  | .dic ks xs, _, h => by
    obtain ⟨a, vs, e, ⟨o, h1⟩, h2⟩ := h
    exact ⟨a, vs, e, ⟨o, l.fz _ _ h1⟩, RepVs.monoV l xs vs h2⟩
theorem RepVs.monoV (l : g.lv g') : ∀ (xs : List PV) (vs : List V), RepVs K g xs vs → RepVs K g' xs vs
  | [], _, h => h
  | x :: xs, _, h => by
    obtain ⟨v, r, e, h1, h2⟩ := h
    exact ⟨v, r, e, RepV.monoV l x v h1, RepVs.monoV l xs r h2⟩
end
theorem RepV.mono (l : g.le g') (x : PV) (v : V) (h : RepV K g x v) : RepV K g' x v := RepV.monoV l.lv x v h
theorem RepVs.mono (l : g.le g') (xs : List PV) (vs : List V) (h : RepVs K g xs vs) : RepVs K g' xs vs := RepVs.monoV l.lv xs vs h
theorem RepVs.nil : RepVs K g [] [] := rfl
theorem RepVs.cons {x : PV} {v : V} {xs : List PV} {vs : List V} (h : RepV K g x v) (t : RepVs K g xs vs) : RepVs K g (x :: xs) (v :: vs) := ⟨v, vs, rfl, h, t⟩
theorem RepVs.length : ∀ {xs : List PV} {vs : List V}, RepVs K g xs vs → xs.length = vs.length
  | [], _, h => by cases (show _ = [] from h); rfl
  | x :: xs, _, h => by
    obtain ⟨v, r, e, h1, h2⟩ := h
    subst e
    exact congrArg Nat.succ (RepVs.length h2)
theorem RepVs.get : ∀ {xs : List PV} {vs : List V} {i : Nat} {x : PV}, RepVs K g xs vs → xs[i]? = some x → ∃ v, vs[i]? = some v ∧ RepV K g x v
  | [], _, _, _, _, e => by simp at e
  | y :: ys, _, 0, x, h, e => by
    obtain ⟨v, r, e', h1, h2⟩ := h
    subst e'
    simp at e; subst e
    exact ⟨v, rfl, h1⟩
  | y :: ys, _, i + 1, x, h, e => by
    obtain ⟨v, r, e', h1, h2⟩ := h
    subst e'
    obtain ⟨u, q1, q2⟩ := RepVs.get (i := i) (x := x) h2 (by simpa using e)
    exact ⟨u, by simpa using q1, q2⟩
theorem RepVs.append : ∀ {xs ys : List PV} {vs ws : List V}, RepVs K g xs vs → RepVs K g ys ws → RepVs K g (xs ++ ys) (vs ++ ws)
  | [], _, _, _, h, h' => by cases (show _ = [] from h); exact h'
  | x :: xs, _, _, _, h, h' => by
    obtain ⟨v, r, e, h1, h2⟩ := h
    subst e
    exact .cons h1 (RepVs.append h2 h')
theorem RepVs.take : ∀ (n : Nat) {xs : List PV} {vs : List V}, RepVs K g xs vs → RepVs K g (xs.take n) (vs.take n)
  | 0, _, _, _ => by simp only [List.take_zero]; exact .nil
  | n + 1, [], _, h => by cases (show _ = [] from h); exact .nil
  | n + 1, x :: xs, _, h => by
    obtain ⟨v, r, e, h1, h2⟩ := h
    subst e
    exact .cons h1 (RepVs.take n h2)
theorem RepVs.drop : ∀ (n : Nat) {xs : List PV} {vs : List V}, RepVs K g xs vs → RepVs K g (xs.drop n) (vs.drop n)
  | 0, _, _, h => h
  | n + 1, [], _, h => by cases (show _ = [] from h); exact .nil
  | n + 1, x :: xs, _, h => by
    obtain ⟨v, r, e, h1, h2⟩ := h
    subst e
    exact RepVs.drop n h2
theorem RepVs.set {x : PV} {v : V} (h : RepV K g x v) : ∀ (i : Nat) {xs : List PV} {vs : List V}, RepVs K g xs vs → RepVs K g (xs.set i x) (vs.set i v)
  | _, [], _, h' => by cases (show _ = [] from h'); exact .nil
  | 0, y :: ys, _, h' => by
    obtain ⟨u, r, e, h1, h2⟩ := h'
    subst e
    exact .cons h h2
  | i + 1, y :: ys, _, h' => by
    obtain ⟨u, r, e, h1, h2⟩ := h'
    subst e
    exact .cons h1 (RepVs.set h i h2)
theorem RepVs.reverse : ∀ {xs : List PV} {vs : List V}, RepVs K g xs vs → RepVs K g xs.reverse vs.reverse
  | [], _, h => by cases (show _ = [] from h); exact .nil
  | x :: xs, _, h => by
    obtain ⟨u, r, e, h1, h2⟩ := h
    subst e
    rw [List.reverse_cons, List.reverse_cons]
    exact RepVs.append (RepVs.reverse h2) (.cons h1 .nil)
theorem RepVs.cut {xs : List PV} {vs : List V} (h : RepVs K g xs vs) (lo hi : Option Int) :
    RepVs K g ((xs.drop (HT.sIx xs.length 0 lo)).take (HT.sIx xs.length xs.length hi - HT.sIx xs.length 0 lo)) (cutV vs lo hi) := by
  unfold cutV
  rw [← h.length]
  exact (h.drop _).take _
end
def uIs : Key → Value → Bool
  | .inl k, v => Value.isInt k v || (match v with
    | .bool b => decide (PpSet.b2 b = k)
    | _ => false)
  | .inr x, v => Value.isStrOf x v
theorem uIs_shape {k : Key} {v : Value} (h : uIs k v = true) : (∃ i t, k = .inl i ∧ v = .int i t) ∨ (∃ b, k = .inl (PpSet.b2 b) ∧ v = .bool b) ∨ ∃ x t, k = .inr x ∧ v = .str x t := by
  cases k with
  | inl i =>
    simp only [uIs, Bool.or_eq_true] at h
    rcases h with h | h
    · obtain ⟨t, e⟩ := Value.isInt_shape (k := i) (v := v) h
      exact .inl ⟨i, t, rfl, e⟩
    · cases v with
      | bool b => exact .inr (.inl ⟨b, by rw [of_decide_eq_true h], rfl⟩)
      | _ => cases h
  | inr x =>
    obtain ⟨t, e⟩ := Value.isStrOf_shape (x := x) (v := v) h
    exact .inr (.inr ⟨x, t, rfl, e⟩)
theorem uIs_int (i : Int) (t : Tok) : uIs (.inl i) (.int i t) = true := by simp [uIs, Value.isInt]
theorem uIs_bool (b : Bool) : uIs (.inl (PpSet.b2 b)) (.bool b) = true := by simp [uIs]
theorem uIs_str (x : Str) (t : Tok) : uIs (.inr x) (.str x t) = true := by simp [uIs, Value.isStrOf]
theorem b2_if (b : Bool) : (if b then (1 : Int) else 0) = PpSet.b2 b := by cases b <;> rfl
def uKind (prog : Program) (w : World) : PySem.KeyKind prog w Key where
  is := uIs
  hash := keyH w
  inj := fun v a b ha hb => by
    rcases uIs_shape ha with ⟨i, t, rfl, rfl⟩ | ⟨c, rfl, rfl⟩ | ⟨x, t, rfl, rfl⟩ <;> rcases uIs_shape hb with ⟨j, u, rfl, e⟩ | ⟨d, rfl, e⟩ | ⟨y, u, rfl, e⟩ <;> first | cases e | skip
    all_goals rfl
  byValue := fun k v h => by
    rcases uIs_shape h with ⟨i, t, rfl, rfl⟩ | ⟨c, rfl, rfl⟩ | ⟨x, t, rfl, rfl⟩ <;> rfl
  pyHash := fun hv h => by
    rcases uIs_shape hv with ⟨i, t, rfl, rfl⟩ | ⟨c, rfl, rfl⟩ | ⟨x, t, rfl, rfl⟩
    · exact wpAny_pyHash_int h
    · exact PpSet.pyHash_bool h
    · exact wpAny_pyHash_str h
  eqBool := fun hu hv h => by
    rcases uIs_shape hu with ⟨i, t, rfl, rfl⟩ | ⟨c, rfl, rfl⟩ | ⟨x, t, rfl, rfl⟩ <;> rcases uIs_shape hv with ⟨j, u, rfl, rfl⟩ | ⟨d, rfl, rfl⟩ | ⟨y, u, rfl, rfl⟩
    · rw [key_ll] at h; exact wpAny_eqBool_int h
    · rw [key_ll] at h; exact SeqAt.EqAt.int_bool i t d _ _ _ _ (by rw [b2_if]; exact h)
    · rw [key_lr] at h; exact SeqAt.EqAt.int_str i t y u _ _ _ _ h
    · rw [key_ll] at h; exact SeqAt.EqAt.bool_int c j u _ _ _ _ (by rw [b2_if]; exact h)
    · rw [key_ll] at h; exact SeqAt.EqAt.bool_bool c d _ _ _ _ (by cases c <;> cases d <;> exact h)
    · rw [key_lr] at h; exact SeqAt.EqAt.bool_str c y u _ _ _ _ h
    · rw [key_rl] at h; exact SeqAt.EqAt.str_int x t j u _ _ _ _ h
    · rw [key_rl] at h; exact SeqAt.EqAt.str_bool x t d _ _ _ _ h
    · rw [key_rr] at h; exact wpAny_eqBool_str h
  «strs» := fun k x t v h => by
    rcases uIs_shape h with ⟨i, u, rfl, e⟩ | ⟨c, rfl, e⟩ | ⟨y, u, rfl, e⟩
    · exact nomatch e
    · exact nomatch e
    · injection e with e1 _
      subst e1
      cases v <;> rfl
/-- the dict at a, its entries by key, the key's place, the value -/
def UD (P : Program) (w : World) (a : Addr) (xs : List (List Key × Addr × Value)) : HO :=
  .ext fun h => ∃ o es ep, h.get? a = some o ∧ o.ExactDict ∧ o.data = .dict es ep ∧ es.toList = xs.map (entryOfKey (tupleKind (uKind P w))) ∧ (xs.map (·.1)).Nodup
theorem noTab_UD {P : Program} {w : World} {a : Addr} {xs : List (List Key × Addr × Value)} : NoTab a (UD P w a xs) := by
  refine ⟨fun _ z => (by cases z), fun q z => ?_⟩
  have e := congrFun (HO.ext.inj z) (⟨(Array.replicate (a + 1) { cls := .none, data := .fields #[.none, .str q 0] } : Array Obj), {}⟩ : Heap)
  have g : (⟨(Array.replicate (a + 1) { cls := .none, data := .fields #[.none, .str q 0] } : Array Obj), {}⟩ : Heap).get? a = some { cls := .none, data := .fields #[.none, .str q 0] } := by
    unfold Heap.get?
    simp
  have r : ∃ (oc : Obj) (vs : Array Value) (t : Tok), (⟨(Array.replicate (a + 1) { cls := .none, data := .fields #[.none, .str q 0] } : Array Obj), {}⟩ : Heap).get? a = some oc ∧ oc.data = .fields vs ∧ vs[1]? = some (.str q t) := ⟨_, _, _, g, rfl, rfl⟩
  obtain ⟨o, es, ep, h1, h2, h3, _⟩ := e.mpr r
  rw [g] at h1
  cases h1
  cases h3
def atomK : PV → Option Key
  | .int i => some (.inl i)
  | .bl b => some (.inl (PpSet.b2 b))
  | .str x => some (.inr x)
  | _ => none
def atomsK : List PV → Option (List Key)
  | [] => some []
  | x :: xs => match atomK x with
    | none => none
    | some k => (atomsK xs).map (k :: ·)
def ukey : PV → Option (List Key)
  | .tup xs => atomsK xs
  | _ => none
abbrev RepU (K : PySem.W.Frag) (g : Gh) : List (PV × PV) → List (List Key × Addr × Value) → Prop := Paired fun p q => ukey p.1 = some q.1 ∧ RepV K g p.1 (.ref q.2.1) ∧ ∃ v, RelV v q.2.2 ∧ RepV K g p.2 v
/-- an exception that was caught: its class, its dict -/
def ExV (C dx a : Addr) : HO := .ext fun h => ∃ (oe : Obj) (vs : Array Value), h.get? a = some oe ∧ oe.cls = .ref C ∧ oe.dict = some dx ∧ oe.data = .fields vs
theorem noTab_ExV {C dx a : Addr} : NoTab a (ExV C dx a) := by
  refine ⟨fun _ z => (by cases z), fun q z => ?_⟩
  have e := congrFun (HO.ext.inj z) (⟨(Array.replicate (a + 1) { cls := .none, data := .fields #[.none, .str q 0] } : Array Obj), {}⟩ : Heap)
  have g : (⟨(Array.replicate (a + 1) { cls := .none, data := .fields #[.none, .str q 0] } : Array Obj), {}⟩ : Heap).get? a = some { cls := .none, data := .fields #[.none, .str q 0] } := by
    unfold Heap.get?
    simp
  have r : ∃ (oc : Obj) (vs : Array Value) (t : Tok), (⟨(Array.replicate (a + 1) { cls := .none, data := .fields #[.none, .str q 0] } : Array Obj), {}⟩ : Heap).get? a = some oc ∧ oc.data = .fields vs ∧ vs[1]? = some (.str q t) := ⟨_, _, _, g, rfl, rfl⟩
  obtain ⟨o, vs, h1, h2, _⟩ := e.mpr r
  rw [g] at h1
  cases h1
  cases h2
theorem noTab_ExO {cls : Value} {a : Addr} : NoTab a (ExO cls a) := by
  refine ⟨fun _ z => (by cases z), fun q z => ?_⟩
  have e := congrFun (HO.ext.inj z) (⟨(Array.replicate (a + 1) { cls := .none, data := .fields #[.none, .str q 0] } : Array Obj), {}⟩ : Heap)
  have g : (⟨(Array.replicate (a + 1) { cls := .none, data := .fields #[.none, .str q 0] } : Array Obj), {}⟩ : Heap).get? a = some { cls := .none, data := .fields #[.none, .str q 0] } := by
    unfold Heap.get?
    simp
  have r : ∃ (oc : Obj) (vs : Array Value) (t : Tok), (⟨(Array.replicate (a + 1) { cls := .none, data := .fields #[.none, .str q 0] } : Array Obj), {}⟩ : Heap).get? a = some oc ∧ oc.data = .fields vs ∧ vs[1]? = some (.str q t) := ⟨_, _, _, g, rfl, rfl⟩
  obtain ⟨o, vs, h1, _, h3, h4, _⟩ := e.mpr r
  rw [g] at h1
  cases h1
  cases h3
  simp at h4
abbrev RepF (K : PySem.W.Frag) (g : Gh) : List (Str × PV) → List (Str × V) → Prop := Paired fun p q => p.1 = q.1 ∧ RepV K g p.2 q.2
abbrev RepKV (K : PySem.W.Frag) (g : Gh) : List (Key × PV) → List (Key × V) → Prop := Paired fun p q => p.1 = q.1 ∧ RepV K g p.2 q.2
def RepO (K : PySem.W.Frag) (mg : MP) (g : Gh) (H : Hp) : SO → Addr → Prop
  | .lst xs, a => ∃ vs, H a = some (.lst vs) ∧ RepVs K g xs vs
  | .dct kvs, a => ∃ ws, H a = some (.dK ws) ∧ RepKV K g kvs ws
  | .dcu kvs, a => ∃ xs, H a = some (UD mg.P mg.w a xs) ∧ (a == sysModules) = false ∧ RepU K g kvs xs
  | .ins c fs, a => ∃ C dx ws, mg.mg c = some (.ref C) ∧ H a = some (.ins C dx ws) ∧ RepF K g fs ws
  | .exc c fs, a => ∃ C, mg.mg c = some (.ref C) ∧ ((∃ dx ws, H a = some (ExV C dx a) ∧ g.fz dx = some (.xd ws) ∧ RepF K g fs ws) ∨ (fs = [] ∧ H a = some (ExO (.ref C) a)))
  | .dead, _ => True
/-- the defs of the written part: code object, its table, qualified name -/
def funsK (K : PySem.W.Frag) : List (Addr × Addr × Str) := K.filterMap fun p => match p.2.data with
  | .func fd => (match fd.code with
    | .ref c => if PySem.W.codeHdIn K c (He.tabOf K c) = true then some (c, He.tabOf K c, fd.qualname) else none
    | _ => none)
  | _ => none
/-- the tables in which the lambdas of a def are noted -/
def tabsK (K : PySem.W.Frag) : List (Addr × Str) := (funsK K).map fun p => (p.2.1, p.2.2 ++ (".<locals>." : Str) ++ ("<lambda>" : Str))
/-- the tables stand, they are no part of what is told else -/
def TbOk (K : PySem.W.Frag) (g : Gh) (H : Hp) : Prop := ∀ p ∈ tabsK K, LamX.TabS H p.1 p.2 ∧ g.fz p.1 = none ∧ g.rs p.1 = none
theorem tabS_ne {H : Hp} {P a : Addr} {q : Str} (t : LamX.TabS H P q) (h : ∀ ps, H a ≠ some (.tbl ps)) : P ≠ a := fun z => by
  obtain ⟨ps, h1, _⟩ := t
  exact h ps (by rw [← z]; exact h1)
theorem tabS_live {H : Hp} {P a : Addr} {q : Str} (t : LamX.TabS H P q) (h : ∀ u, H a = some u → NoTab a u) : P ≠ a := tabS_ne t fun ps e => (h _ e).1 ps rfl
structure RepS (K : PySem.W.Frag) (mg : MP) (g : Gh) (S : Sto) (H : Hp) : Prop where
  fz : ∀ a o, g.fz a = some o → H a = some o
  len : g.m.length = S.length
  ob : ∀ (i : Nat) (so : SO) (a : Addr), S[i]? = some so → g.m[i]? = some a → RepO K mg g H so a
  nofz : ∀ (i : Nat) (so : SO) (a : Addr), S[i]? = some so → so ≠ .dead → g.m[i]? = some a → g.fz a = none
  inj : ∀ (i j : Nat) (so so' : SO) (a : Addr), S[i]? = some so → so ≠ .dead → S[j]? = some so' → so' ≠ .dead → g.m[i]? = some a → g.m[j]? = some a → i = j
  rs : ∀ a o, g.rs a = some o → H a = some o ∧ g.fz a = none ∧ ∀ (i : Nat) (so : SO), S[i]? = some so → so ≠ .dead → g.m[i]? ≠ some a
  tb : TbOk K g H
structure RepE (K : PySem.W.Frag) (g : Gh) (sp : Sl) (σ : L2.St) : Prop where
  len : sp.length = σ.length
  get : ∀ (i : Nat) (x : PV), sp[i]? = some (some x) → ∃ v, σ[i]? = some (some v) ∧ RepV K g x v
def RepX (K : PySem.W.Frag) (mg : MP) (g : Gh) (x : EX) (cls : Value) (d : Option Addr) (H : Hp) : Prop :=
  ∃ C, cls = .ref C ∧ mg.mg x.cls = some (.ref C) ∧ ∃ dx ws, d = some dx ∧ g.fz dx = some (.xd ws) ∧ RepF K g x.fs ws
section
variable {K : PySem.W.Frag} {mg : MP} {g g' : Gh} {S : Sto} {H : Hp} {sp : Sl} {σ : L2.St}
theorem RepF.monoV (l : g.lv g') {xs : List (Str × PV)} {ws : List (Str × V)} (h : RepF K g xs ws) : RepF K g' xs ws := Paired.mapP h fun _ _ q => ⟨q.1, RepV.monoV l _ _ q.2⟩
theorem RepKV.monoV (l : g.lv g') {xs : List (Key × PV)} {ws : List (Key × V)} (h : RepKV K g xs ws) : RepKV K g' xs ws := Paired.mapP h fun _ _ q => ⟨q.1, RepV.monoV l _ _ q.2⟩
theorem RepU.monoV (l : g.lv g') {xs : List (PV × PV)} {ws : List (List Key × Addr × Value)} (h : RepU K g xs ws) : RepU K g' xs ws := Paired.mapP h fun _ _ ⟨q1, q2, v, q3, q4⟩ => ⟨q1, RepV.monoV l _ _ q2, v, q3, RepV.monoV l _ _ q4⟩
theorem RepE.monoV (l : g.lv g') (h : RepE K g sp σ) : RepE K g' sp σ := ⟨h.len, fun i x e => by
  obtain ⟨v, e1, r⟩ := h.get i x e
  exact ⟨v, e1, RepV.monoV l _ _ r⟩⟩
theorem RepE.mono (l : g.le g') (h : RepE K g sp σ) : RepE K g' sp σ := RepE.monoV l.lv h
theorem RepE.set {x : PV} {v : V} (h : RepE K g sp σ) (r : RepV K g x v) (i : Nat) : RepE K g (sp.set i (some x)) (σ.set i (some v)) := by
  refine ⟨by simp [h.len], fun j y e => ?_⟩
  by_cases hj : i = j
  · subst hj
    have hi : i < sp.length := by
      by_cases hi : i < sp.length
      · exact hi
      · rw [List.getElem?_eq_none (by simpa using hi)] at e; cases e
    rw [List.getElem?_set_self hi] at e
    cases e
    exact ⟨v, List.getElem?_set_self (by rw [← h.len]; exact hi), r⟩
  · rw [List.getElem?_set_ne hj] at e
    obtain ⟨u, e1, q⟩ := h.get j y e
    exact ⟨u, by rw [List.getElem?_set_ne hj]; exact e1, q⟩
theorem RepO.monoV (l : g.lv g') {so : SO} {a : Addr} (h : RepO K mg g H so a) : RepO K mg g' H so a := by
  cases so with
  | lst xs => obtain ⟨vs, e, r⟩ := h; exact ⟨vs, e, RepVs.monoV l _ _ r⟩
  | dct kvs => obtain ⟨ws, e, r⟩ := h; exact ⟨ws, e, RepKV.monoV l r⟩
  | dcu kvs => obtain ⟨ws, e, n, r⟩ := h; exact ⟨ws, e, n, RepU.monoV l r⟩
  | ins c fs => obtain ⟨C, dx, ws, e0, e, r⟩ := h; exact ⟨C, dx, ws, e0, e, RepF.monoV l r⟩
  | exc c fs =>
    obtain ⟨C, e0, ⟨dx, ws, e, f, r⟩ | z⟩ := h
    · exact ⟨C, e0, .inl ⟨dx, ws, e, l.fz _ _ f, RepF.monoV l r⟩⟩
    · exact ⟨C, e0, .inr z⟩
  | dead => trivial
theorem RepO.mono (l : g.le g') {so : SO} {a : Addr} (h : RepO K mg g H so a) : RepO K mg g' H so a := h.monoV l.lv
theorem RepO.kind {so : SO} {a : Addr} (h : RepO K mg g H so a) (n : so ≠ .dead) : ∀ u, H a = some u → NoTab a u := fun u e => by
  cases so with
  | lst xs => obtain ⟨vs, e', r⟩ := h; rw [e] at e'; cases e'; exact ⟨fun _ z => (by cases z), fun _ z => (by cases z)⟩
  | dct kvs => obtain ⟨ws, e', r⟩ := h; rw [e] at e'; cases e'; exact ⟨fun _ z => (by cases z), fun _ z => (by cases z)⟩
  | dcu kvs => obtain ⟨ws, e', r⟩ := h; rw [e] at e'; cases e'; exact noTab_UD
  | ins c fs => obtain ⟨C, dx, ws, e0, e', r⟩ := h; rw [e] at e'; cases e'; exact ⟨fun _ z => (by cases z), fun _ z => (by cases z)⟩
  | exc c fs =>
    obtain ⟨C, e0, ⟨dx, ws, e', _, r⟩ | ⟨_, e'⟩⟩ := h
    · rw [e] at e'; cases e'; exact noTab_ExV
    · rw [e] at e'; cases e'; exact noTab_ExO
  | dead => exact absurd rfl n
theorem RepO.heap {H' : Hp} {so : SO} {a : Addr} (h : RepO K mg g H so a) (e : H' a = H a) : RepO K mg g H' so a := by
  cases so with
  | lst xs => obtain ⟨vs, e', r⟩ := h; exact ⟨vs, e.trans e', r⟩
  | dct kvs => obtain ⟨ws, e', r⟩ := h; exact ⟨ws, e.trans e', r⟩
  | dcu kvs => obtain ⟨ws, e', r⟩ := h; exact ⟨ws, e.trans e', r⟩
  | ins c fs => obtain ⟨C, dx, ws, e0, e', r⟩ := h; exact ⟨C, dx, ws, e0, e.trans e', r⟩
  | exc c fs =>
    obtain ⟨C, e0, ⟨dx, ws, e', f, r⟩ | ⟨z, e'⟩⟩ := h
    · exact ⟨C, e0, .inl ⟨dx, ws, e.trans e', f, r⟩⟩
    · exact ⟨C, e0, .inr ⟨z, e.trans e'⟩⟩
  | dead => trivial
theorem RepO.there {so : SO} {a : Addr} (h : RepO K mg g H so a) (n : so ≠ .dead) : ∃ o, H a = some o := by
  cases so with
  | lst xs => obtain ⟨vs, e', r⟩ := h; exact ⟨_, e'⟩
  | dct kvs => obtain ⟨ws, e', r⟩ := h; exact ⟨_, e'⟩
  | dcu kvs => obtain ⟨ws, e', r⟩ := h; exact ⟨_, e'⟩
  | ins c fs => obtain ⟨C, dx, ws, e0, e', r⟩ := h; exact ⟨_, e'⟩
  | exc c fs =>
    obtain ⟨C, e0, ⟨dx, ws, e', r⟩ | ⟨_, e'⟩⟩ := h
    · exact ⟨_, e'⟩
    · exact ⟨_, e'⟩
  | dead => exact absurd rfl n
theorem dead_or (so : SO) : so = .dead ∨ so ≠ .dead := by
  cases so with
  | dead => exact .inl rfl
  | _ => exact .inr (fun h => by cases h)
/-- what is tracked stays, but for new things -/
theorem RepS.kept {H' : Hp} (h : RepS K mg g S H) (k : ∀ a o, H a = some o → H' a = some o) : RepS K mg g S H' := by
  refine ⟨fun a o e => k _ _ (h.fz a o e), h.len, fun i so a e1 e2 => ?_, h.nofz, h.inj, fun a o e => ⟨k _ _ (h.rs a o e).1, (h.rs a o e).2⟩, fun p hp => ⟨(h.tb p hp).1.ext k, (h.tb p hp).2⟩⟩
  have r := h.ob i so a e1 e2
  rcases dead_or so with z | z
  · subst z; trivial
  · obtain ⟨o, e⟩ := r.there z
    exact r.heap ((k _ _ e).trans e.symm)
theorem keep_new {p : Addr} {o : HO} (hp : H p = none) : ∀ a u, H a = some u → (upd H p o) a = some u := fun a u e => by
  rw [upd_ne (ne_of_none e hp)]; exact e
/-- a new thing that nobody will change -/
theorem RepS.froze {p : Addr} {o : HO} (h : RepS K mg g S H) (hp : H p = none) : RepS K mg ⟨upd g.fz p o, g.m, g.rs, g.tb⟩ S (upd H p o) ∧ g.le ⟨upd g.fz p o, g.m, g.rs, g.tb⟩ := by
  have gp : g.fz p = none := by
    cases e : g.fz p with
    | none => rfl
    | some u => rw [h.fz p u e] at hp; cases hp
  have l : g.le ⟨upd g.fz p o, g.m, g.rs, g.tb⟩ := ⟨fun a u e => keep_new gp a u e, fun _ _ e => e, rfl, rfl⟩
  have h' := h.kept (keep_new (o := o) hp)
  refine ⟨⟨fun a u e => ?_, h.len, fun i so a e1 e2 => (h'.ob i so a e1 e2).mono l, fun i so a e1 n e2 => ?_, h.inj, fun a u e => ?_, fun q hq => ⟨(h'.tb q hq).1, (upd_ne (tabS_ne (h.tb q hq).1 fun ps e => by rw [hp] at e; cases e)).trans (h.tb q hq).2.1, (h.tb q hq).2.2⟩⟩, l⟩
  · by_cases ha : a = p
    · subst ha
      have e' : upd g.fz a o a = some u := e
      rw [upd_same] at e' ⊢; exact e'
    · have e' : upd g.fz p o a = some u := e
      rw [upd_ne ha] at e' ⊢; exact h.fz a u e'
  · have ha : a ≠ p := by
      obtain ⟨u, e⟩ := (h.ob i so a e1 e2).there n
      exact ne_of_none e hp
    show upd g.fz p o a = none
    rw [upd_ne ha]
    exact h.nofz i so a e1 n e2
  · obtain ⟨q1, q2, q3⟩ := h.rs a u e
    have ha : a ≠ p := ne_of_none q1 hp
    refine ⟨keep_new hp a u q1, ?_, q3⟩
    show upd g.fz p o a = none
    rw [upd_ne ha]; exact q2
/-- a new thing of the store -/
theorem RepS.push {p : Addr} {o : HO} {so : SO} (h : RepS K mg g S H) (hp : H p = none) (r : RepO K mg g (upd H p o) so p) : RepS K mg ⟨g.fz, g.m ++ [p], g.rs, g.tb⟩ (S ++ [so]) (upd H p o) ∧ g.le ⟨g.fz, g.m ++ [p], g.rs, g.tb⟩ := by
  have l : g.le ⟨g.fz, g.m ++ [p], g.rs, g.tb⟩ := ⟨fun _ _ e => e, fun i a e => by
    show (g.m ++ [p])[i]? = some a
    rw [List.getElem?_append_left (List.getElem?_eq_some_iff.mp e).1]; exact e, rfl, rfl⟩
  have gp : g.fz p = none := by
    cases e : g.fz p with
    | none => rfl
    | some u => rw [h.fz p u e] at hp; cases hp
  have h' := h.kept (keep_new (o := o) hp)
  have cases_i : ∀ (i : Nat) (s1 : SO) (a : Addr), (S ++ [so])[i]? = some s1 → (g.m ++ [p])[i]? = some a → (S[i]? = some s1 ∧ g.m[i]? = some a) ∨ (i = S.length ∧ s1 = so ∧ a = p) := fun i s1 a e1 e2 => by
    by_cases hi : i < S.length
    · rw [List.getElem?_append_left hi] at e1
      rw [List.getElem?_append_left (by rw [h.len]; exact hi)] at e2
      exact .inl ⟨e1, e2⟩
    · have hi2 : i < (S ++ [so]).length := (List.getElem?_eq_some_iff.mp e1).1
      have : i = S.length := by simp at hi2; omega
      subst this
      refine .inr ⟨rfl, ?_, ?_⟩
      · simpa using e1.symm
      · rw [← h.len] at e2; simpa using e2.symm
  refine ⟨⟨fun a u e => h'.fz a u e, by simp [h.len], fun i s1 a e1 e2 => ?_, fun i s1 a e1 n e2 => ?_, fun i j s1 s2 a e1 n1 e2 n2 e3 e4 => ?_, fun a u e => ?_, h'.tb⟩, l⟩
  · rcases cases_i i s1 a e1 e2 with ⟨q1, q2⟩ | ⟨_, rfl, rfl⟩
    · exact (h'.ob i s1 a q1 q2).mono l
    · exact r.mono l
  · rcases cases_i i s1 a e1 e2 with ⟨q1, q2⟩ | ⟨_, rfl, rfl⟩
    · exact h.nofz i s1 a q1 n q2
    · exact gp
  · rcases cases_i i s1 a e1 e3 with ⟨q1, q2⟩ | ⟨rfl, rfl, rfl⟩
    · rcases cases_i j s2 a e2 e4 with ⟨q3, q4⟩ | ⟨rfl, rfl, rfl⟩
      · exact h.inj i j s1 s2 a q1 n1 q3 n2 q2 q4
      · obtain ⟨u, e⟩ := (h.ob i s1 _ q1 q2).there n1
        rw [hp] at e; cases e
    · rcases cases_i j s2 _ e2 e4 with ⟨q3, q4⟩ | ⟨rfl, rfl, _⟩
      · obtain ⟨u, e⟩ := (h.ob j s2 _ q3 q4).there n2
        rw [hp] at e; cases e
      · rfl
  · obtain ⟨q1, q2, q3⟩ := h'.rs a u e
    refine ⟨q1, q2, fun i s1 e1 n1 e2 => ?_⟩
    rcases cases_i i s1 a e1 e2 with ⟨q4, q5⟩ | ⟨_, _, e3⟩
    · exact q3 i s1 q4 n1 q5
    · subst e3
      have := (h.rs a u e).1
      rw [hp] at this; cases this
/-- a thing of the store changed -/
theorem RepS.put {n : Nat} {a : Addr} {o : HO} {so so' : SO} (h : RepS K mg g S H) (hs : S[n]? = some so) (nd : so ≠ .dead) (hm : g.m[n]? = some a) (r : RepO K mg g (upd H a o) so' a) : RepS K mg g (S.set n so') (upd H a o) := by
  have hn : n < S.length := (List.getElem?_eq_some_iff.mp hs).1
  have ci : ∀ (i : Nat) (s1 : SO), (S.set n so')[i]? = some s1 → (i = n ∧ s1 = so') ∨ (i ≠ n ∧ S[i]? = some s1) := fun i s1 e => by
    by_cases hi : n = i
    · subst hi
      rw [List.getElem?_set_self hn] at e
      exact .inl ⟨rfl, (Option.some.inj e).symm⟩
    · rw [List.getElem?_set_ne hi] at e
      exact .inr ⟨fun z => hi z.symm, e⟩
  refine ⟨fun b u e => ?_, by simp [h.len], fun i s1 b e1 e2 => ?_, fun i s1 b e1 n1 e2 => ?_, fun i j s1 s2 b e1 n1 e2 n2 e3 e4 => ?_, fun b u e => ?_, fun p hp => ⟨tabS_upd (h.tb p hp).1 ((h.ob n so a hs hm).kind nd), (h.tb p hp).2⟩⟩
  · have hb : b ≠ a := fun z => by
      subst z
      rw [h.nofz n so b hs nd hm] at e; cases e
    rw [upd_ne hb]; exact h.fz b u e
  · rcases ci i s1 e1 with ⟨rfl, rfl⟩ | ⟨hi, q⟩
    · rw [hm] at e2; cases e2; exact r
    · rcases dead_or s1 with z | z
      · subst z; trivial
      · have hb : b ≠ a := fun e => by
          subst e
          exact hi (h.inj i n s1 so b q z hs nd e2 hm)
        exact (h.ob i s1 b q e2).heap (upd_ne hb)
  · rcases ci i s1 e1 with ⟨rfl, rfl⟩ | ⟨hi, q⟩
    · exact h.nofz i so b hs nd e2
    · exact h.nofz i s1 b q n1 e2
  · rcases ci i s1 e1 with ⟨rfl, rfl⟩ | ⟨hi, q⟩
    · rcases ci j s2 e2 with ⟨rfl, rfl⟩ | ⟨hj, q'⟩
      · rfl
      · exact h.inj i j so s2 b hs nd q' n2 e3 e4
    · rcases ci j s2 e2 with ⟨rfl, rfl⟩ | ⟨hj, q'⟩
      · exact h.inj i j s1 so b q n1 hs nd e3 e4
      · exact h.inj i j s1 s2 b q n1 q' n2 e3 e4
  · obtain ⟨q1, q2, q3⟩ := h.rs b u e
    have hb : b ≠ a := fun z => by subst z; exact q3 n so hs nd hm
    refine ⟨by rw [upd_ne hb]; exact q1, q2, fun i s1 e1 n1 e2 => ?_⟩
    rcases ci i s1 e1 with ⟨rfl, rfl⟩ | ⟨hi, q⟩
    · exact q3 i so hs nd e2
    · exact q3 i s1 q n1 e2
/-- a new thing kept for oneself -/
theorem RepS.reserve {p : Addr} {o : HO} (h : RepS K mg g S H) (hp : H p = none) : RepS K mg { g with rs := upd g.rs p o } S (upd H p o) := by
  have gp : g.fz p = none := by
    cases e : g.fz p with
    | none => rfl
    | some u => rw [h.fz p u e] at hp; cases hp
  have h' := h.kept (keep_new (o := o) hp)
  have l : g.lv { g with rs := upd g.rs p o } := ⟨fun _ _ e => e, fun _ _ e => e⟩
  refine ⟨h'.fz, h.len, fun i so a e1 e2 => (h'.ob i so a e1 e2).monoV l, h.nofz, h.inj, fun a u e => ?_, fun q hq => ⟨(h'.tb q hq).1, (h.tb q hq).2.1, (upd_ne (tabS_ne (h.tb q hq).1 fun ps e => by rw [hp] at e; cases e)).trans (h.tb q hq).2.2⟩⟩
  by_cases ha : a = p
  · subst ha
    have e' : upd g.rs a o a = some u := e
    rw [upd_same] at e' ⊢
    refine ⟨e', gp, fun i so e1 n e2 => ?_⟩
    obtain ⟨z, q⟩ := (h.ob i so a e1 e2).there n
    rw [hp] at q; cases q
  · have e' : upd g.rs p o a = some u := e
    rw [upd_ne ha] at e'
    exact h'.rs a u e'
/-- .. changed -/
theorem RepS.rekeep {p : Addr} {o o' : HO} (h : RepS K mg g S H) (hp : g.rs p = some o) (ho : NoTab p o) : RepS K mg { g with rs := upd g.rs p o' } S (upd H p o') := by
  obtain ⟨q1, q2, q3⟩ := h.rs p o hp
  have l : g.lv { g with rs := upd g.rs p o' } := ⟨fun _ _ e => e, fun _ _ e => e⟩
  refine ⟨fun a u e => ?_, h.len, fun i so a e1 e2 => ?_, h.nofz, h.inj, fun a u e => ?_, fun q hq => ⟨tabS_upd (h.tb q hq).1 (fun u e => by rw [q1] at e; cases e; exact ho), (h.tb q hq).2.1, (upd_ne (fun z => by have w := (h.tb q hq).2.2; rw [z, hp] at w; cases w)).trans (h.tb q hq).2.2⟩⟩
  · have ha : a ≠ p := fun z => by subst z; have e' : g.fz a = some u := e; rw [q2] at e'; cases e'
    rw [upd_ne ha]; exact h.fz a u e
  · rcases dead_or so with z | z
    · subst z; trivial
    · have ha : a ≠ p := fun e => by subst e; exact q3 i so e1 z e2
      exact ((h.ob i so a e1 e2).heap (upd_ne ha)).monoV l
  · by_cases ha : a = p
    · subst ha
      have e' : upd g.rs a o' a = some u := e
      rw [upd_same] at e' ⊢
      exact ⟨e', q2, q3⟩
    · have e' : upd g.rs p o' a = some u := e
      rw [upd_ne ha] at e' ⊢
      exact h.rs a u e'
/-- .. let go, to stay as it is -/
theorem RepS.letGo {p : Addr} {o : HO} {r0 : Hp} (h : RepS K mg g S H) (hp : g.rs p = some o) (h0 : ∀ a u, r0 a = some u → a ≠ p ∧ g.rs a = some u) : RepS K mg ⟨upd g.fz p o, g.m, r0, g.tb⟩ S H ∧ g.lv ⟨upd g.fz p o, g.m, r0, g.tb⟩ := by
  obtain ⟨q1, q2, q3⟩ := h.rs p o hp
  have l : g.lv ⟨upd g.fz p o, g.m, r0, g.tb⟩ := ⟨fun a u e => by
    show upd g.fz p o a = some u
    rw [upd_ne (fun z => by subst z; rw [q2] at e; cases e)]; exact e, fun _ _ e => e⟩
  refine ⟨⟨fun a u e => ?_, h.len, fun i so a e1 e2 => (h.ob i so a e1 e2).monoV l, fun i so a e1 n e2 => ?_, h.inj, fun a u e => ?_, fun q hq => ⟨(h.tb q hq).1, (upd_ne (fun z => by have w := (h.tb q hq).2.2; rw [z, hp] at w; cases w)).trans (h.tb q hq).2.1, (by cases e : r0 q.1 with | none => exact e | some u => (have w := (h0 q.1 u e).2; rw [(h.tb q hq).2.2] at w; cases w))⟩⟩, l⟩
  · by_cases ha : a = p
    · subst ha
      have e' : upd g.fz a o a = some u := e
      rw [upd_same] at e'; cases e'; exact q1
    · have e' : upd g.fz p o a = some u := e
      rw [upd_ne ha] at e'
      exact h.fz a u e'
  · show upd g.fz p o a = none
    rw [upd_ne (fun z => by subst z; exact q3 i so e1 n e2)]
    exact h.nofz i so a e1 n e2
  · obtain ⟨n1, n2⟩ := h0 a u e
    obtain ⟨k1, k2, k3⟩ := h.rs a u n2
    refine ⟨k1, ?_, k3⟩
    show upd g.fz p o a = none
    rw [upd_ne n1]; exact k2
/-- .. let go, into the store -/
theorem RepS.letIn {p : Addr} {o : HO} {so : SO} {r0 : Hp} (h : RepS K mg g S H) (hp : g.rs p = some o) (h0 : ∀ a u, r0 a = some u → a ≠ p ∧ g.rs a = some u) (r : RepO K mg g H so p) : RepS K mg ⟨g.fz, g.m ++ [p], r0, g.tb⟩ (S ++ [so]) H ∧ g.lv ⟨g.fz, g.m ++ [p], r0, g.tb⟩ := by
  obtain ⟨q1, q2, q3⟩ := h.rs p o hp
  have l : g.lv ⟨g.fz, g.m ++ [p], r0, g.tb⟩ := ⟨fun _ _ e => e, fun i a e => by
    show (g.m ++ [p])[i]? = some a
    rw [List.getElem?_append_left (List.getElem?_eq_some_iff.mp e).1]; exact e⟩
  have cases_i : ∀ (i : Nat) (s1 : SO) (a : Addr), (S ++ [so])[i]? = some s1 → (g.m ++ [p])[i]? = some a → (S[i]? = some s1 ∧ g.m[i]? = some a) ∨ (i = S.length ∧ s1 = so ∧ a = p) := fun i s1 a e1 e2 => by
    by_cases hi : i < S.length
    · rw [List.getElem?_append_left hi] at e1
      rw [List.getElem?_append_left (by rw [h.len]; exact hi)] at e2
      exact .inl ⟨e1, e2⟩
    · have hi2 : i < (S ++ [so]).length := (List.getElem?_eq_some_iff.mp e1).1
      have : i = S.length := by simp at hi2; omega
      subst this
      refine .inr ⟨rfl, ?_, ?_⟩
      · simpa using e1.symm
      · rw [← h.len] at e2; simpa using e2.symm
  refine ⟨⟨h.fz, by simp [h.len], fun i s1 a e1 e2 => ?_, fun i s1 a e1 n e2 => ?_, fun i j s1 s2 a e1 n1 e2 n2 e3 e4 => ?_, fun a u e => ?_, fun q hq => ⟨(h.tb q hq).1, (h.tb q hq).2.1, (by cases e : r0 q.1 with | none => exact e | some u => (have w := (h0 q.1 u e).2; rw [(h.tb q hq).2.2] at w; cases w))⟩⟩, l⟩
  · rcases cases_i i s1 a e1 e2 with ⟨k1, k2⟩ | ⟨_, rfl, rfl⟩
    · exact (h.ob i s1 a k1 k2).monoV l
    · exact r.monoV l
  · rcases cases_i i s1 a e1 e2 with ⟨k1, k2⟩ | ⟨_, rfl, rfl⟩
    · exact h.nofz i s1 a k1 n k2
    · exact q2
  · rcases cases_i i s1 a e1 e3 with ⟨k1, k2⟩ | ⟨rfl, rfl, rfl⟩
    · rcases cases_i j s2 a e2 e4 with ⟨k3, k4⟩ | ⟨rfl, rfl, rfl⟩
      · exact h.inj i j s1 s2 a k1 n1 k3 n2 k2 k4
      · exact absurd k2 (q3 i s1 k1 n1)
    · rcases cases_i j s2 _ e2 e4 with ⟨k3, k4⟩ | ⟨rfl, rfl, _⟩
      · exact absurd k4 (q3 j s2 k3 n2)
      · rfl
  · obtain ⟨n1, n2⟩ := h0 a u e
    obtain ⟨k1, k2, k3⟩ := h.rs a u n2
    refine ⟨k1, k2, fun i s1 e1 n e2 => ?_⟩
    rcases cases_i i s1 a e1 e2 with ⟨k4, k5⟩ | ⟨_, _, e3⟩
    · exact k3 i s1 k4 n k5
    · exact n1 e3
theorem RepS.at_ {n : Nat} {a : Addr} (h : RepS K mg g S H) (hm : g.m[n]? = some a) : ∃ so, S[n]? = some so := by
  have hn : n < g.m.length := (List.getElem?_eq_some_iff.mp hm).1
  rw [h.len] at hn
  exact ⟨S[n], by simp [hn]⟩
theorem RepS.addr {n : Nat} {so : SO} (h : RepS K mg g S H) (e : S[n]? = some so) : ∃ a, g.m[n]? = some a := by
  have hn : n < S.length := (List.getElem?_eq_some_iff.mp e).1
  rw [← h.len] at hn
  exact ⟨g.m[n], by simp [hn]⟩
end
section
variable (X : Cx)
/-- behind an outcome: E takes an exception -/
def Post {α β : Type} (g : Gh) (R : Gh → α → β → Prop) (E : EX → Sto → Prop) (o : Out α) (Q : β → Hp → Prop) : Prop := match o with
  | .ok a S => ∀ b H g', g.le g' → RepS X.K X.mp g' S H → R g' a b → Q b H
  | .exc x S => E x S
  | .stuck => False
def WishX (g : Gh) (sp : Sl) (x : EX) (S : Sto) : WX := fun cls d σ H => ∃ g', g.le g' ∧ RepS X.K X.mp g' S H ∧ RepE X.K g' sp σ ∧ RepX X.K X.mp g' x cls d H
def ExcT (g : Gh) (sp : Sl) (x : EX) (S : Sto) : Prop := Takes X (WishX X g sp x S)
theorem ExcT.mono {X : Cx} {g g' : Gh} {sp : Sl} {x : EX} {S : Sto} (t : ExcT X g sp x S) (l : g.le g') : ExcT X g' sp x S :=
  Takes.imp t fun _ _ _ _ ⟨g2, l2, h⟩ => ⟨g2, l.trans l2, h⟩
def rdE (t : Sx) : TE := fun σ H Q => ∃ g sp S, RepS X.K X.mp g S H ∧ RepE X.K g sp σ ∧ Post X g (RepV X.K) (ExcT X g sp) (t sp S) Q
def rdT (t : St') : TT := fun σ H Q => ∃ g sp S, RepS X.K X.mp g S H ∧ RepE X.K g sp σ ∧ Post X g (fun _ a b => a = b) (ExcT X g sp) (t sp S) Q
def rdA (t : Sa) : TA := fun σ H Q => ∃ g sp S, RepS X.K X.mp g S H ∧ RepE X.K g sp σ ∧ Post X g (RepVs X.K) (ExcT X g sp) (t sp S) Q
def PostS (g : Gh) (o : SOut) (D : Ends) : Prop := match o with
  | .nx sp S => ∀ σ H g', g.le g' → RepS X.K X.mp g' S H → RepE X.K g' sp σ → D.nx σ H
  | .rt x S => ∀ v H g', g.le g' → RepS X.K X.mp g' S H → RepV X.K g' x v → D.rt v H
  | .bk sp S => ∀ σ H g', g.le g' → RepS X.K X.mp g' S H → RepE X.K g' sp σ → D.bk σ H
  | .ct sp S => ∀ σ H g', g.le g' → RepS X.K X.mp g' S H → RepE X.K g' sp σ → D.ct σ H
  | .exc x sp S => ExcT X g sp x S
  | .stuck => False
def rdS (t : Ss) : TS := fun D σ H => ∃ g sp S, RepS X.K X.mp g S H ∧ RepE X.K g sp σ ∧ PostS X g (t sp S) D
end
section
variable {X : Cx} {α β γ δ : Type}
theorem _root_.L2.PE.imp {e : Expr} {t t' : TE} (h : PE X e t) (i : ∀ σ H Q, t' σ H Q → t σ H Q) : PE X e t' := ⟨fun pins s σ H Q I q => h.run pins s σ H Q I (i _ _ _ q)⟩
theorem _root_.L2.PT.imp {e : Expr} {t t' : TT} (h : PT X e t) (i : ∀ σ H Q, t' σ H Q → t σ H Q) : PT X e t' := ⟨fun pins s σ H Q I q => h.run pins s σ H Q I (i _ _ _ q)⟩
theorem _root_.L2.PW.imp {e : Expr} {t t' : TT} (h : PW X e t) (i : ∀ σ H Q, t' σ H Q → t σ H Q) : PW X e t' := ⟨fun wh pins s σ H Q I q => h.run wh pins s σ H Q I (i _ _ _ q)⟩
theorem _root_.L2.PA.imp {e : List Expr} {t t' : TA} (h : PA X e t) (i : ∀ σ H Q, t' σ H Q → t σ H Q) : PA X e t' := ⟨fun pos pins s σ H Q I q => h.run pos pins s σ H Q I (i _ _ _ q)⟩
theorem _root_.L2.PS.imp {e : Stmt} {t t' : TS} (h : PS X e t) (i : ∀ D σ H, t' D σ H → t D σ H) : PS X e t' := ⟨fun pins s σ H D I q => h.run pins s σ H D I (i _ _ _ q)⟩
theorem _root_.L2.PSs.imp {e : List Stmt} {t t' : TS} (h : PSs X e t) (i : ∀ D σ H, t' D σ H → t D σ H) : PSs X e t' := ⟨fun pins s σ H D I q => h.run pins s σ H D I (i _ _ _ q)⟩
theorem Post.imp {g : Gh} {R : Gh → α → β → Prop} {E E' : EX → Sto → Prop} {o : Out α} {Q Q' : β → Hp → Prop} (h : Post X g R E o Q) (hE : ∀ x S, E x S → E' x S)
    (hQ : ∀ b H, Q b H → Q' b H) : Post X g R E' o Q' := by
  cases o with
  | ok a S => exact fun b H g' l hS r => hQ b H (h b H g' l hS r)
  | exc x S => exact hE x S h
  | stuck => exact h
theorem Post.le {g g1 : Gh} {R : Gh → α → β → Prop} {E : EX → Sto → Prop} {o : Out α} {Q : β → Hp → Prop} (h : Post X g R E o Q) (l : g.le g1) : Post X g1 R E o Q := by
  cases o with
  | ok a S => exact fun b H g' l' hS r => h b H g' (l.trans l') hS r
  | exc x S => exact h
  | stuck => exact h
/-- one thing behind another -/
theorem Post.seq {g : Gh} {R : Gh → α → β → Prop} {R2 : Gh → γ → δ → Prop} {sp : Sl} {o : Out α} {f : α → Sto → Out γ} {Q : δ → Hp → Prop} (h : Post X g R2 (ExcT X g sp) (o.bind f) Q) :
    Post X g R (ExcT X g sp) o (fun b H1 => ∃ a g1 S1, g.le g1 ∧ RepS X.K X.mp g1 S1 H1 ∧ R g1 a b ∧ Post X g1 R2 (ExcT X g1 sp) (f a S1) Q) := by
  cases o with
  | ok a S => exact fun b H1 g1 l hS r => ⟨a, g1, S, l, hS, r, (Post.imp (show Post X g R2 (ExcT X g sp) (f a S) Q from h) (fun x S' t => t.mono l) fun _ _ q => q).le l⟩
  | exc x S => exact h
  | stuck => exact h
/-- the first of a row -/
theorem rdE.fst {ta : Sx} {sp : Sl} {S : Sto} {g : Gh} {σ : L2.St} {H : Hp} {R2 : Gh → γ → δ → Prop} {f : PV → Sto → Out γ} {Q : δ → Hp → Prop} (hS : RepS X.K X.mp g S H) (hE : RepE X.K g sp σ)
    (h : Post X g R2 (ExcT X g sp) ((ta sp S).bind f) Q) :
    rdE X ta σ H (fun b H1 => ∃ a g1 S1, g.le g1 ∧ RepS X.K X.mp g1 S1 H1 ∧ RepE X.K g1 sp σ ∧ RepV X.K g1 a b ∧ Post X g1 R2 (ExcT X g1 sp) (f a S1) Q) :=
  ⟨g, sp, S, hS, hE, (Post.seq h).imp (fun _ _ x => x) fun _ _ ⟨a, g1, S1, l, q1, q2, q3⟩ => ⟨a, g1, S1, l, q1, hE.mono l, q2, q3⟩⟩
theorem rdT.fst {ta : St'} {sp : Sl} {S : Sto} {g : Gh} {σ : L2.St} {H : Hp} {R2 : Gh → γ → δ → Prop} {f : Bool → Sto → Out γ} {Q : δ → Hp → Prop} (hS : RepS X.K X.mp g S H) (hE : RepE X.K g sp σ)
    (h : Post X g R2 (ExcT X g sp) ((ta sp S).bind f) Q) :
    rdT X ta σ H (fun b H1 => ∃ g1 S1, g.le g1 ∧ RepS X.K X.mp g1 S1 H1 ∧ RepE X.K g1 sp σ ∧ Post X g1 R2 (ExcT X g1 sp) (f b S1) Q) :=
  ⟨g, sp, S, hS, hE, (Post.seq h).imp (fun _ _ x => x) fun _ _ ⟨a, g1, S1, l, q1, q2, q3⟩ => ⟨g1, S1, l, q1, hE.mono l, by rw [← q2]; exact q3⟩⟩
theorem rdA.fst {ta : Sa} {sp : Sl} {S : Sto} {g : Gh} {σ : L2.St} {H : Hp} {R2 : Gh → γ → δ → Prop} {f : List PV → Sto → Out γ} {Q : δ → Hp → Prop} (hS : RepS X.K X.mp g S H) (hE : RepE X.K g sp σ)
    (h : Post X g R2 (ExcT X g sp) ((ta sp S).bind f) Q) :
    rdA X ta σ H (fun b H1 => ∃ a g1 S1, g.le g1 ∧ RepS X.K X.mp g1 S1 H1 ∧ RepE X.K g1 sp σ ∧ RepVs X.K g1 a b ∧ Post X g1 R2 (ExcT X g1 sp) (f a S1) Q) :=
  ⟨g, sp, S, hS, hE, (Post.seq h).imp (fun _ _ x => x) fun _ _ ⟨a, g1, S1, l, q1, q2, q3⟩ => ⟨a, g1, S1, l, q1, hE.mono l, q2, q3⟩⟩
/-- an outcome reached -/
theorem Post.ok {g : Gh} {R : Gh → α → β → Prop} {E : EX → Sto → Prop} {a : α} {b : β} {S : Sto} {H : Hp} {Q : β → Hp → Prop} (h : Post X g R E (.ok a S) Q) {g' : Gh} (l : g.le g') (hS : RepS X.K X.mp g' S H) (r : R g' a b) : Q b H := h b H g' l hS r
end
end MX
end
section
namespace MX
open PySem PySem.Spec PyProof.Rows L2
section
variable {X : Cx}
theorem rdE.mono {t : Sx} {σ : L2.St} {H : Hp} {Q Q' : VK} (h : rdE X t σ H Q) (i : ∀ b H, Q b H → Q' b H) : rdE X t σ H Q' := by
  obtain ⟨g, sp, S, hS, hE, p⟩ := h
  exact ⟨g, sp, S, hS, hE, p.imp (fun _ _ x => x) i⟩
theorem rdT.mono {t : St'} {σ : L2.St} {H : Hp} {Q Q' : Bool → Hp → Prop} (h : rdT X t σ H Q) (i : ∀ b H, Q b H → Q' b H) : rdT X t σ H Q' := by
  obtain ⟨g, sp, S, hS, hE, p⟩ := h
  exact ⟨g, sp, S, hS, hE, p.imp (fun _ _ x => x) i⟩
theorem rdA.mono {t : Sa} {σ : L2.St} {H : Hp} {Q Q' : List V → Hp → Prop} (h : rdA X t σ H Q) (i : ∀ b H, Q b H → Q' b H) : rdA X t σ H Q' := by
  obtain ⟨g, sp, S, hS, hE, p⟩ := h
  exact ⟨g, sp, S, hS, hE, p.imp (fun _ _ x => x) i⟩
end
abbrev V1 := PV → Sto → Option (PV × Sto)
abbrev V2 := PV → PV → Sto → Option (PV × Sto)
abbrev VN := List PV → Sto → Option (PV × Sto)
@[reducible] def Out.of {α : Type} (o : Option (α × Sto)) : Out α := match o with
  | some (a, S) => .ok a S
  | none => .stuck
section
variable (X : Cx)
def PostO {α β : Type} (g : Gh) (R : Gh → α → β → Prop) (o : Option (α × Sto)) (Q : β → Hp → Prop) : Prop := match o with
  | some (a, S) => ∀ b H g', g.le g' → RepS X.K X.mp g' S H → R g' a b → Q b H
  | none => False
def rV1 (o : V1) : V → Hp → VK → Prop := fun x H Q => ∃ g S a, RepS X.K X.mp g S H ∧ RepV X.K g a x ∧ PostO X g (RepV X.K) (o a S) Q
def rV2 (o : V2) : R2 := fun x y H Q => ∃ g S a b, RepS X.K X.mp g S H ∧ RepV X.K g a x ∧ RepV X.K g b y ∧ PostO X g (RepV X.K) (o a b S) Q
def rVN (o : VN) : List V → Hp → VK → Prop := fun xs H Q => ∃ g S as, RepS X.K X.mp g S H ∧ RepVs X.K g as xs ∧ PostO X g (RepV X.K) (o as S) Q
end
section
variable {X : Cx} {α β : Type}
theorem Post.of {g : Gh} {R : Gh → α → β → Prop} {E : EX → Sto → Prop} {o : Option (α × Sto)} {Q : β → Hp → Prop} (h : Post X g R E (.of o) Q) : PostO X g R o Q := by
  cases o with
  | none => exact h
  | some p => obtain ⟨a, S⟩ := p; exact h
theorem PostO.ok {g : Gh} {R : Gh → α → β → Prop} {a : α} {S : Sto} {Q : β → Hp → Prop} (h : PostO X g R (some (a, S)) Q) {b : β} {H : Hp} {g' : Gh} (l : g.le g') (hS : RepS X.K X.mp g' S H) (r : R g' a b) : Q b H := h b H g' l hS r
/-- the same store -/
theorem PostO.now {g : Gh} {R : Gh → α → β → Prop} {a : α} {S : Sto} {Q : β → Hp → Prop} (h : PostO X g R (some (a, S)) Q) {b : β} {H : Hp} (hS : RepS X.K X.mp g S H) (r : R g a b) : Q b H := h b H g (.refl g) hS r
/-- a new tuple -/
theorem PostO.tup {g : Gh} {xs : List PV} {vs : List V} {S : Sto} {Q : VK} {H : Hp} (h : PostO X g (RepV X.K) (some (.tup xs, S)) Q) (hS : RepS X.K X.mp g S H) (r : RepVs X.K g xs vs) : ∀ p (o : Obj), H p = none → o.dict = none → Q (.ref p) (upd H p (.frz o (.tup vs))) := fun p o hp hd => by
  obtain ⟨h1, l⟩ := hS.froze (o := .frz o (.tup vs)) hp
  exact h _ _ _ l h1 ⟨p, vs, rfl, .inl ⟨o, upd_same, hd⟩, RepVs.mono l _ _ r⟩
/-- a new list that stays -/
theorem PostO.lst {g : Gh} {xs : List PV} {vs : List V} {S : Sto} {Q : VK} {H : Hp} (h : PostO X g (RepV X.K) (some (.lst xs, S)) Q) (hS : RepS X.K X.mp g S H) (r : RepVs X.K g xs vs) : ∀ p, H p = none → Q (.ref p) (upd H p (.lst vs)) := fun p hp => by
  obtain ⟨h1, l⟩ := hS.froze (o := .lst vs) hp
  exact h _ _ _ l h1 ⟨p, vs, rfl, .inl (.inl upd_same), RepVs.mono l _ _ r⟩
/-- a new list of the store -/
theorem PostO.new {g : Gh} {xs : List PV} {vs : List V} {S : Sto} {Q : VK} {H : Hp} (h : PostO X g (RepV X.K) (some (.ref S.length, S ++ [.lst xs])) Q) (hS : RepS X.K X.mp g S H) (r : RepVs X.K g xs vs) : ∀ p, H p = none → Q (.ref p) (upd H p (.lst vs)) := fun p hp => by
  obtain ⟨h1, l⟩ := hS.push (so := .lst xs) (o := .lst vs) hp ⟨vs, upd_same, r⟩
  exact h _ _ _ l h1 ⟨p, rfl, by show (g.m ++ [p])[S.length]? = some p; rw [← hS.len]; simp⟩
end
section
variable {X : Cx} {a b c e : Expr} {ta tb tc te : Sx} {pos : Pos} {es : List Expr} {tA tB : St'}
def sxVar (i : Nat) : Sx := fun sp S => match sp[i]? with
  | some (some v) => .ok v S
  | _ => .stuck
def sxC (v : PV) : Sx := fun _ S => .ok v S
theorem se_var (i : Nat) {x : Str} (hN : X.N[i]? = some x := by rfl) (hv : Vis X.env.scope x := by first | exact Or.inl rfl | exact Or.inr (Or.inl rfl) | exact Or.inr (Or.inr rfl)) (hd : (x == ("__debug__" : Str)) = false := by decide)
    (hcd : (x == ("__classdict__" : Str)) = false := by decide) : PE X (.Name x pos) (rdE X (sxVar i)) := by
  refine (pe_var hN hv hd hcd).imp fun σ H Q ⟨g, sp, S, hS, hE, h⟩ => ?_
  unfold sxVar at h
  split at h
  · rename_i v e
    obtain ⟨u, e1, r⟩ := hE.get i v e
    exact ⟨u, e1, h u H g (.refl g) hS r⟩
  · exact h.elim
theorem se_c {t : V} {v : PV} (h : PE X e (tC t)) (r : ∀ g, RepV X.K g v t) : PE X e (rdE X (sxC v)) := h.imp fun σ H Q ⟨g, sp, S, hS, hE, h⟩ => h t H g (.refl g) hS (r g)
theorem se_int {i j} : PE X (.Constant (.int i) j pos) (rdE X (sxC (.int i))) := se_c pe_int fun _ => rfl
theorem se_bl {b j} : PE X (.Constant (.bool b) j pos) (rdE X (sxC (.bl b))) := se_c pe_bl fun _ => rfl
theorem se_non {j} : PE X (.Constant .none j pos) (rdE X (sxC .non)) := se_c pe_non fun _ => rfl
theorem se_str {x j} : PE X (.Constant (.str x) j pos) (rdE X (sxC (.str x))) := se_c pe_str fun _ => rfl
def sx1 (o : V1) (ta : Sx) : Sx := fun sp S => (ta sp S).bind fun a S1 => .of (o a S1)
def sx2 (o : V2) (ta tb : Sx) : Sx := fun sp S => (ta sp S).bind fun a S1 => (tb sp S1).bind fun b S2 => .of (o a b S2)
theorem rd1 {o : V1} {σ : L2.St} {H : Hp} {Q : VK} (h : rdE X (sx1 o ta) σ H Q) : rdE X ta σ H fun x H1 => rV1 X o x H1 Q := by
  obtain ⟨g, sp, S, hS, hE, p⟩ := h
  exact (rdE.fst hS hE p).mono fun x H1 ⟨a, g1, S1, l1, q1, e1, r1, p1⟩ => ⟨g1, S1, a, q1, r1, Post.of p1⟩
theorem rd2 {o : V2} {σ : L2.St} {H : Hp} {Q : VK} (h : rdE X (sx2 o ta tb) σ H Q) : tOp (rV2 X o) (rdE X ta) (rdE X tb) σ H Q := by
  obtain ⟨g, sp, S, hS, hE, p⟩ := h
  refine (rdE.fst hS hE p).mono fun x H1 ⟨a, g1, S1, l1, q1, e1, r1, p1⟩ => ?_
  refine (rdE.fst q1 e1 p1).mono fun y H2 ⟨b, g2, S2, l2, q2, e2, r2, p2⟩ => ?_
  exact ⟨g2, S2, a, b, q2, RepV.mono l2 _ _ r1, r2, Post.of p2⟩
abbrev Op2 (X : Cx) (f : Value → Value → Sem Value) (o : V2) : Prop := OpR X f (rV2 X o)
abbrev Un1 (X : Cx) (f : Value → Sem Value) (o : V1) : Prop := UnR X f (rV1 X o)
theorem se_bin {op : Operator} {o : V2} (ho : Op2 X (binaryOp op) o) (ha : PE X a (rdE X ta)) (hb : PE X b (rdE X tb)) : PE X (.BinOp a op b pos) (rdE X (sx2 o ta tb)) := (pe_op ho ha hb).imp fun _ _ _ => rd2
theorem se_un {op : UnaryOp} {o : V1} (ho : Un1 X (unaryOp op) o) (ha : PE X a (rdE X ta)) : PE X (.UnaryOp op a pos) (rdE X (sx1 o ta)) := (pe_un ho ha).imp fun _ _ _ => rd1
theorem se_cmp {op : CmpOp} {o : V2} (ho : Op2 X (compareOp op) o) (ha : PE X a (rdE X ta)) (hb : PE X b (rdE X tb)) (hm : behindInMarks op b = false := by first | exact nomark _ | rfl | with_unfolding_all rfl) : PE X (.Compare a [op] [b] pos) (rdE X (sx2 o ta tb)) := (pe_cmpR ho ha hb hm).imp fun _ _ _ => rd2
/-- a value that must be a truth value -/
def stB (t : Sx) : St' := fun sp S => (t sp S).bind fun v S1 => match v with
  | .bl b => .ok b S1
  | _ => .stuck
theorem rdB {t : Sx} {σ : L2.St} {H : Hp} {Q : Bool → Hp → Prop} (h : rdT X (stB t) σ H Q) : rdE X t σ H fun x H' => ∃ k, x = .bl k ∧ Q k H' := by
  obtain ⟨g, sp, S, hS, hE, p⟩ := h
  refine (rdE.fst hS hE p).mono fun x H1 ⟨a, g1, S1, l1, q1, e1, r1, p1⟩ => ?_
  cases a with
  | bl k => exact ⟨k, r1, p1 k H1 g1 (.refl _) q1 rfl⟩
  | _ => exact p1.elim
theorem st_cmp {op : CmpOp} {o : V2} (ho : Op2 X (compareOp op) o) (ha : PE X a (rdE X ta)) (hb : PE X b (rdE X tb)) (hm : behindInMarks op b = false := by first | exact nomark _ | rfl | with_unfolding_all rfl) : PT X (.Compare a [op] [b] pos) (rdT X (stB (sx2 o ta tb))) :=
  (pt_cmpR ho ha hb hm).imp fun _ _ _ h => (rdB h |> fun (q : rdE X (sx2 o ta tb) _ _ _) => rd2 q)
/-- an expression whose test is its value's truth, a truth value -/
theorem st_val (ha : PE X a (rdE X ta)) (he : ∀ whole, isTrue a X.env whole = (do let v ← whole; standAt a.pos; holding [v] (truthy v)) := by intro _; rfl) : PT X a (rdT X (stB ta)) :=
  (pt_val ha he).imp fun _ _ _ h => rdB h
/-- a op b op' c -/
def sxChain (o o' : V2) (ta tb tc : Sx) : Sx := fun sp S => (ta sp S).bind fun a S1 => (tb sp S1).bind fun b S2 => (Out.of (o a b S2)).bind fun z S3 => match z with
  | .bl true => (tc sp S3).bind fun c S4 => .of (o' b c S4)
  | .bl false => .ok (.bl false) S3
  | _ => .stuck
def stAnd (t u : St') : St' := fun sp S => (t sp S).bind fun c S1 => if c = true then u sp S1 else .ok false S1
def stOr (t u : St') : St' := fun sp S => (t sp S).bind fun c S1 => if c = true then .ok true S1 else u sp S1
def stNot (t : St') : St' := fun sp S => (t sp S).bind fun c S1 => .ok (!c) S1
variable {rest : List Expr}
theorem st_or1 (ha : PT X a (rdT X tA)) : PW X (.BoolOp .Or [a] pos) (rdT X tA) := pw_or1 ha
theorem st_or (ha : PT X a (rdT X tA)) (hb : PW X (.BoolOp .Or (b :: rest) pos) (rdT X tB)) : PW X (.BoolOp .Or (a :: b :: rest) pos) (rdT X (stOr tA tB)) := (pw_or ha hb).imp fun σ H Q ⟨g, sp, S, hS, hE, p⟩ => by
  refine (rdT.fst hS hE p).mono fun c H1 ⟨g1, S1, l1, q1, e1, p1⟩ => ?_
  cases c with
  | true => exact iteT (p1 true H1 g1 (.refl _) q1 rfl)
  | false => exact iteF ⟨g1, sp, S1, q1, e1, p1⟩
theorem st_not (ha : PT X a (rdT X tA)) : PT X (.UnaryOp .Not a pos) (rdT X (stNot tA)) := (pt_not ha).imp fun σ H Q ⟨g, sp, S, hS, hE, p⟩ => by
  exact (rdT.fst hS hE p).mono fun c H1 ⟨g1, S1, l1, q1, e1, p1⟩ => p1 _ H1 g1 (.refl _) q1 rfl
def sxAnd (ta tb : Sx) : Sx := fun sp S => (ta sp S).bind fun v S1 => match v with
  | .bl true => tb sp S1
  | .bl false => .ok (.bl false) S1
  | _ => .stuck
def sxOr (ta tb : Sx) : Sx := fun sp S => (ta sp S).bind fun v S1 => match v with
  | .bl true => .ok (.bl true) S1
  | .bl false => tb sp S1
  | _ => .stuck
def sxNot (ta : Sx) : Sx := fun sp S => (ta sp S).bind fun v S1 => match v with
  | .bl k => .ok (.bl (!k)) S1
  | _ => .stuck
def sxIf (t : St') (ta tb : Sx) : Sx := fun sp S => (t sp S).bind fun c S1 => if c = true then ta sp S1 else tb sp S1
theorem se_if (hc : PT X c (rdT X tA)) (ha : PE X a (rdE X ta)) (hb : PE X b (rdE X tb)) : PE X (.IfExp c a b pos) (rdE X (sxIf tA ta tb)) := (pe_ifExp hc ha hb).imp fun σ H Q ⟨g, sp, S, hS, hE, p⟩ => by
  refine (rdT.fst hS hE p).mono fun k H1 ⟨g1, S1, l1, q1, e1, p1⟩ => ?_
  cases k with
  | true => exact iteT ⟨g1, sp, S1, q1, e1, p1⟩
  | false => exact iteF ⟨g1, sp, S1, q1, e1, p1⟩
def saNil : Sa := fun _ S => .ok [] S
def saCons (ta : Sx) (tr : Sa) : Sa := fun sp S => (ta sp S).bind fun a S1 => (tr sp S1).bind fun as S2 => .ok (a :: as) S2
variable {tr : Sa}
theorem sa_nil : PA X [] (rdA X saNil) := pa_nil.imp fun σ H Q ⟨g, sp, S, hS, hE, p⟩ => p [] H g (.refl _) hS rfl
theorem sa_cons (ha : PE X e (rdE X te)) (hr : PA X es (rdA X tr)) (hs : starEach (e :: es) X.env = (false, eval e X.env) :: starEach es X.env := by rfl) : PA X (e :: es) (rdA X (saCons te tr)) := (pa_cons ha hr hs).imp fun σ H Q ⟨g, sp, S, hS, hE, p⟩ => by
  refine (rdE.fst hS hE p).mono fun x H1 ⟨a, g1, S1, l1, q1, e1, r1, p1⟩ => ?_
  refine (rdA.fst q1 e1 p1).mono fun xs H2 ⟨as, g2, S2, l2, q2, e2, r2, p2⟩ => ?_
  exact p2 _ H2 g2 (.refl _) q2 (.cons (RepV.mono l2 _ _ r1) r2)
def sxN (o : VN) (t : Sa) : Sx := fun sp S => (t sp S).bind fun as S1 => .of (o as S1)
theorem rdN {o : VN} {t : Sa} {σ : L2.St} {H : Hp} {Q : VK} (h : rdE X (sxN o t) σ H Q) : rdA X t σ H fun xs H1 => rVN X o xs H1 Q := by
  obtain ⟨g, sp, S, hS, hE, p⟩ := h
  exact (rdA.fst hS hE p).mono fun xs H1 ⟨as, g1, S1, l1, q1, e1, r1, p1⟩ => ⟨g1, S1, as, q1, r1, Post.of p1⟩
/-- displays -/
def vTup : VN := fun as S => if as.length ≤ sizeLine then some (.tup as, S) else none
def vLst : VN := fun as S => if as.length ≤ sizeLine then some (.lst as, S) else none
def vNew : VN := fun as S => if as.length ≤ sizeLine then some (.ref S.length, S ++ [.lst as]) else none
/-- a tuple's display: its object is known -/
def tTupF (t : TA) : TE := fun σ H Q => t σ H fun xs H' => xs.length ≤ sizeLine ∧ ∀ p (o : Obj), H' p = none → o.dict = none → Q (.ref p) (upd H' p (.frz o (.tup xs)))
theorem pe_tupF {es : List Expr} {t : TA} {k} {pos : Pos} (h : PA X es t) : PE X (.Tuple es k pos) (tTupF t) := by
  constructor
  intro pins s σ H Q I hq
  refine wpAny_Tuple_spliced (thn (h.run pos pins s σ H _ I hq) ?_)
  intro us s1 ⟨xs, H1, I1, r, z, q⟩
  refine ⟨by rw [← r.length]; exact z, .ref s1.heap.objs.size, upd H1 s1.heap.objs.size (.frz { cls := .type "tuple", data := .seq us.toArray } (.tup xs)), ?_, rfl, q _ _ (I1.hok.fresh (Nat.le_refl _)) rfl⟩
  exact I1.laid (t' := s1.toks) (fun b u e => Heap.get?_push_of_some _ e) (Nat.le_refl _) ⟨Heap.get?_push_size _ rfl, z, us, r, IsTup.new _ _⟩
theorem se_tup {k} (h : PA X es (rdA X tr)) : PE X (.Tuple es k pos) (rdE X (sxN vTup tr)) := (pe_tupF h).imp fun σ H Q q => (rdN q).mono fun xs H1 ⟨g1, S1, as, q1, r1, p1⟩ => by
  unfold vTup at p1
  split at p1
  · rename_i hl
    exact ⟨by rw [← r1.length]; exact hl, p1.tup q1 r1⟩
  · exact p1.elim
theorem se_lst (h : PA X es (rdA X tr)) : PE X (.List es pos) (rdE X (sxN vLst tr)) := (pe_lst h).imp fun σ H Q q => (rdN q).mono fun xs H1 ⟨g1, S1, as, q1, r1, p1⟩ => by
  unfold vLst at p1
  split at p1
  · rename_i hl
    exact ⟨by rw [← r1.length]; exact hl, p1.lst q1 r1⟩
  · exact p1.elim
theorem se_new (h : PA X es (rdA X tr)) : PE X (.List es pos) (rdE X (sxN vNew tr)) := (pe_lst h).imp fun σ H Q q => (rdN q).mono fun xs H1 ⟨g1, S1, as, q1, r1, p1⟩ => by
  unfold vNew at p1
  split at p1
  · rename_i hl
    exact ⟨by rw [← r1.length]; exact hl, p1.new q1 r1⟩
  · exact p1.elim
abbrev CallN (X : Cx) (f : Value) (o : VN) : Prop := CallR X f (rVN X o)
variable {id T : String} {x : Str} {p : Pos}
theorem se_callB {o : VN} (hc : CallN X (.builtin id) o) (hg : Gl X x) (hm : X.mg x = none) (hv : bootBuiltins x = some (.builtin id)) (ha : PA X (e :: es) (rdA X tr)) (hn : x ≠ "__name__" := by decide) (hdb : (x == ("__debug__" : Str)) = false := by decide)
    (he : starEach (e :: es) X.env = (false, eval e X.env) :: starEach es X.env := by rfl) (hpl : (backTo pos (starEach es X.env)).any (·.1) = false := by rfl) : PE X (.Call (.Name x p) (e :: es) [] pos) (rdE X (sxN o tr)) :=
  (pe_callB hc hg hm hv ha hn hdb he hpl).imp fun _ _ _ => rdN
theorem se_callTy {o : VN} (hc : CallN X (.type T) o) (hg : Gl X x) (hm : X.mg x = none) (hv : bootBuiltins x = some (.type T)) (ha : PA X (e :: es) (rdA X tr)) (hn : x ≠ "__name__" := by decide) (hdb : (x == ("__debug__" : Str)) = false := by decide)
    (he : starEach (e :: es) X.env = (false, eval e X.env) :: starEach es X.env := by rfl) (hpl : (backTo pos (starEach es X.env)).any (·.1) = false := by rfl) : PE X (.Call (.Name x p) (e :: es) [] pos) (rdE X (sxN o tr)) :=
  (pe_callTy hc hg hm hv ha hn hdb he hpl).imp fun _ _ _ => rdN
/-- a subscript -/
abbrev Ix2 (X : Cx) (o : V2) : Prop := IxR X (rV2 X o)
theorem se_ix {o : V2} (hr : Ix2 X o) (ha : PE X a (rdE X ta)) (hb : PE X b (rdE X tb)) (hs : PlainIx b := by exact fun _ _ => rfl) : PE X (.Subscript a b pos) (rdE X (sx2 o ta tb)) := (pe_ix hr ha hb hs).imp fun _ _ _ => rd2
/-- a slice's part -/
abbrev So := Sl → Sto → Out (Option Int)
def rdO (X : Cx) (t : So) : TO := fun σ H Q => ∃ g sp S, RepS X.K X.mp g S H ∧ RepE X.K g sp σ ∧ Post X g (fun _ a b => a = b) (ExcT X g sp) (t sp S) Q
def soNo : So := fun _ S => .ok none S
def soPart (t : Sx) : So := fun sp S => (t sp S).bind fun v S1 => match v with
  | .int i => .ok (some i) S1
  | _ => .stuck
theorem _root_.L2.PO.imp {o : Option Expr} {t t' : TO} (h : PO X o t) (i : ∀ σ H Q, t' σ H Q → t σ H Q) : PO X o t' := ⟨fun pins s σ H Q I q => h.run pins s σ H Q I (i _ _ _ q)⟩
theorem so_no : PO X none (rdO X soNo) := po_none.imp fun σ H Q ⟨g, sp, S, hS, hE, p⟩ => p none H g (.refl _) hS rfl
theorem so_part (h : PE X e (rdE X te)) : PO X (some e) (rdO X (soPart te)) := (po_some h).imp fun σ H Q ⟨g, sp, S, hS, hE, p⟩ => by
  refine (rdE.fst hS hE p).mono fun x H1 ⟨a, g1, S1, l1, q1, e1, r1, p1⟩ => ?_
  cases a with
  | int i => exact ⟨i, r1, p1 _ H1 g1 (.refl _) q1 rfl⟩
  | _ => exact p1.elim
abbrev VS := PV → Option Int → Option Int → Sto → Option (PV × Sto)
def rVS (X : Cx) (o : VS) : V → Option Int → Option Int → Hp → VK → Prop := fun x lo hi H Q => ∃ g S a, RepS X.K X.mp g S H ∧ RepV X.K g a x ∧ PostO X g (RepV X.K) (o a lo hi S) Q
def sxSl (o : VS) (ta : Sx) (tl th : So) : Sx := fun sp S => (ta sp S).bind fun a S1 => (tl sp S1).bind fun lo S2 => (th sp S2).bind fun hi S3 => .of (o a lo hi S3)
theorem rdO.fst {γ δ : Type} {ta : So} {sp : Sl} {S : Sto} {g : Gh} {σ : L2.St} {H : Hp} {R2 : Gh → γ → δ → Prop} {f : Option Int → Sto → Out γ} {Q : δ → Hp → Prop} (hS : RepS X.K X.mp g S H) (hE : RepE X.K g sp σ)
    (h : Post X g R2 (ExcT X g sp) ((ta sp S).bind f) Q) {Q' : Option Int → Hp → Prop} (i : ∀ b H1, (∃ g1 S1, g.le g1 ∧ RepS X.K X.mp g1 S1 H1 ∧ RepE X.K g1 sp σ ∧ Post X g1 R2 (ExcT X g1 sp) (f b S1) Q) → Q' b H1) : rdO X ta σ H Q' :=
  ⟨g, sp, S, hS, hE, (Post.seq h).imp (fun _ _ x => x) fun b H1 ⟨a, g1, S1, l, q1, q2, q3⟩ => i b H1 ⟨g1, S1, l, q1, hE.mono l, by rw [← q2]; exact q3⟩⟩
theorem se_sl {o : VS} {lo hi : Option Expr} {tl th : So} {p2 : Pos} (hr : SlR X (rVS X o)) (he : PE X e (rdE X te)) (hl : PO X lo (rdO X tl)) (hu : PO X hi (rdO X th)) : PE X (.Subscript e (.Slice lo hi none p2) pos) (rdE X (sxSl o te tl th)) :=
  (pe_slice hr he hl hu).imp fun σ H Q ⟨g, sp, S, hS, hE, p⟩ => by
    refine (rdE.fst hS hE p).mono fun x H1 ⟨a, g1, S1, l1, q1, e1, r1, p1⟩ => ?_
    refine rdO.fst q1 e1 p1 fun l H2 ⟨g2, S2, l2, q2, e2, p2⟩ => ?_
    refine rdO.fst q2 e2 p2 fun u H3 ⟨g3, S3, l3, q3, e3, p3⟩ => ?_
    exact ⟨g3, S3, a, q3, RepV.mono (l2.trans l3) _ _ r1, Post.of p3⟩
end
@[reducible] def bindS {α : Type} (o : Out α) (sp : Sl) (f : α → Sto → SOut) : SOut := match o with
  | .ok a S => f a S
  | .exc x S => .exc x sp S
  | .stuck => .stuck
section
variable {X : Cx} {st : Stmt} {rest : List Stmt} {t u : Ss} {e : Expr} {te : Sx} {pos : Pos} {D : Ends}
theorem PostS.le {g g1 : Gh} {o : SOut} (h : PostS X g o D) (l : g.le g1) : PostS X g1 o D := by
  cases o with
  | nx sp S => exact fun σ H g' l' => h σ H g' (l.trans l')
  | rt x S => exact fun σ H g' l' => h σ H g' (l.trans l')
  | bk sp S => exact fun σ H g' l' => h σ H g' (l.trans l')
  | ct sp S => exact fun σ H g' l' => h σ H g' (l.trans l')
  | exc x sp S => exact ExcT.mono h l
  | stuck => exact h
theorem PostS.seq {α β : Type} {g : Gh} {R : Gh → α → β → Prop} {sp : Sl} {o : Out α} {f : α → Sto → SOut} (h : PostS X g (bindS o sp f) D) :
    Post X g R (ExcT X g sp) o (fun b H1 => ∃ a g1 S1, g.le g1 ∧ RepS X.K X.mp g1 S1 H1 ∧ R g1 a b ∧ PostS X g1 (f a S1) D) := by
  cases o with
  | ok a S => exact fun b H1 g1 l hS r => ⟨a, g1, S, l, hS, r, PostS.le (show PostS X g (f a S) D from h) l⟩
  | exc x S => exact h
  | stuck => exact h
theorem rdE.sq {g : Gh} {S : Sto} {H : Hp} {σ : L2.St} {sp : Sl} {f : PV → Sto → SOut} (hS : RepS X.K X.mp g S H) (hE : RepE X.K g sp σ) (h : PostS X g (bindS (te sp S) sp f) D) :
    rdE X te σ H (fun b H1 => ∃ a g1 S1, g.le g1 ∧ RepS X.K X.mp g1 S1 H1 ∧ RepE X.K g1 sp σ ∧ RepV X.K g1 a b ∧ PostS X g1 (f a S1) D) :=
  ⟨g, sp, S, hS, hE, (PostS.seq h).imp (fun _ _ x => x) fun _ _ ⟨a, g1, S1, l, q1, q2, q3⟩ => ⟨a, g1, S1, l, q1, hE.mono l, q2, q3⟩⟩
theorem rdT.sq {tt : St'} {g : Gh} {S : Sto} {H : Hp} {σ : L2.St} {sp : Sl} {f : Bool → Sto → SOut} (hS : RepS X.K X.mp g S H) (hE : RepE X.K g sp σ) (h : PostS X g (bindS (tt sp S) sp f) D) :
    rdT X tt σ H (fun b H1 => ∃ g1 S1, g.le g1 ∧ RepS X.K X.mp g1 S1 H1 ∧ RepE X.K g1 sp σ ∧ PostS X g1 (f b S1) D) :=
  ⟨g, sp, S, hS, hE, (PostS.seq h).imp (fun _ _ x => x) fun _ _ ⟨a, g1, S1, l, q1, q2, q3⟩ => ⟨g1, S1, l, q1, hE.mono l, by rw [← q2]; exact q3⟩⟩
def ssNil : Ss := fun sp S => .nx sp S
def ssSeq (t u : Ss) : Ss := fun sp S => match t sp S with
  | .nx sp' S' => u sp' S'
  | o => o
theorem ss_nil : PSs X [] (rdS X ssNil) := pss_nil.imp fun D σ H ⟨g, sp, S, hS, hE, p⟩ => p σ H g (.refl _) hS hE
theorem ss_cons (h1 : PS X st (rdS X t)) (h2 : PSs X rest (rdS X u)) : PSs X (st :: rest) (rdS X (ssSeq t u)) := (pss_cons h1 h2).imp fun D σ H ⟨g, sp, S, hS, hE, p⟩ => by
  refine ⟨g, sp, S, hS, hE, ?_⟩
  unfold ssSeq at p
  cases h : t sp S with
  | nx sp' S' =>
    rw [h] at p
    exact fun σ' H' g' l q1 q2 => ⟨g', sp', S', q1, q2, p.le l⟩
  | rt x S' => rw [h] at p; exact p
  | bk sp' S' => rw [h] at p; exact p
  | ct sp' S' => rw [h] at p; exact p
  | exc x sp' S' => rw [h] at p; exact p
  | stuck => rw [h] at p; exact p
theorem ss_one (h1 : PS X st (rdS X t)) : PSs X [st] (rdS X t) := pss_one h1
def ssBreak : Ss := fun sp S => .bk sp S
def ssCont : Ss := fun sp S => .ct sp S
def ssExpr (te : Sx) : Ss := fun sp S => bindS (te sp S) sp fun _ S1 => .nx sp S1
theorem ss_expr (he : PE X e (rdE X te)) (hs : swapsWith e none pos.line X.env = pure false := by rfl) : PS X (.Expr e pos) (rdS X (ssExpr te)) := (ps_expr he hs).imp fun D σ H ⟨g, sp, S, hS, hE, p⟩ =>
  (rdE.sq hS hE p).mono fun x H1 ⟨a, g1, S1, l1, q1, e1, r1, p1⟩ => p1 σ H1 g1 (.refl _) q1 e1
def ssRet (te : Sx) : Ss := fun sp S => bindS (te sp S) sp fun v S1 => .rt v S1
theorem ss_ret (he : PE X e (rdE X te)) : PS X (.Return (some e) pos) (rdS X (ssRet te)) := (ps_ret he).imp fun D σ H ⟨g, sp, S, hS, hE, p⟩ =>
  (rdE.sq hS hE p).mono fun x H1 ⟨a, g1, S1, l1, q1, e1, r1, p1⟩ => p1 x H1 g1 (.refl _) q1 r1
def ssRetN : Ss := fun _ S => .rt .non S
def ssIf (c : St') (t u : Ss) : Ss := fun sp S => bindS (c sp S) sp fun k S1 => if k = true then t sp S1 else u sp S1
theorem ss_if {c : Expr} {as bs : List Stmt} {tc : St'} (hc : PT X c (rdT X tc)) (ha : PSs X as (rdS X t)) (hb : PSs X bs (rdS X u)) : PS X (.If c as bs pos) (rdS X (ssIf tc t u)) := (ps_if hc ha hb).imp fun D σ H ⟨g, sp, S, hS, hE, p⟩ => by
  refine (rdT.sq hS hE p).mono fun k H1 ⟨g1, S1, l1, q1, e1, p1⟩ => ?_
  cases k with
  | true => exact iteT ⟨g1, sp, S1, q1, e1, p1⟩
  | false => exact iteF ⟨g1, sp, S1, q1, e1, p1⟩
def ssSet (i : Nat) (te : Sx) : Ss := fun sp S => bindS (te sp S) sp fun v S1 => .nx (sp.set i (some v)) S1
theorem ss_set (i : Nat) {x : Str} {pos' : Pos} (hN : X.N.Nodup) (he : PE X e (rdE X te)) (hi : X.N[i]? = some x := by rfl) (hx : Loc X.env.scope x := by first | exact Or.inl rfl | exact Or.inr rfl) (hs : swapsWith e (some (.Name x pos')) pos.line X.env = pure false := by rfl) (hf : X.fn x = true ∨ X.env.scope.names.lookup x = some .local := by first | exact .inl rfl | exact .inr rfl) :
    PS X (.Assign [.Name x pos'] e pos) (rdS X (ssSet i te)) := (ps_set hN hi hx he hs hf).imp fun D σ H ⟨g, sp, S, hS, hE, p⟩ =>
  (rdE.sq hS hE p).mono fun x H1 ⟨a, g1, S1, l1, q1, e1, r1, p1⟩ => p1 _ H1 g1 (.refl _) q1 (e1.set r1 i)
end
/-- a target takes a value -/
abbrev Sg := PV → Sl → Sto → Option Sl
/-- but for the places is all stays -/
def Near (is : List Nat) (σ σ' : L2.St) : Prop := σ'.length = σ.length ∧ ∀ i, i ∉ is → σ'[i]? = σ[i]?
theorem Near.refl {is : List Nat} {σ : L2.St} : Near is σ σ := ⟨rfl, fun _ _ => rfl⟩
theorem Near.trans {is js : List Nat} {σ σ1 σ2 : L2.St} (a : Near is σ σ1) (b : Near js σ1 σ2) : Near (is ++ js) σ σ2 := ⟨b.1.trans a.1, fun i h => (b.2 i fun z => h (List.mem_append_right _ z)).trans (a.2 i fun z => h (List.mem_append_left _ z))⟩
def rdG (X : Cx) (is : List Nat) (t : Sg) : TG := fun v σ H Q => ∃ g sp S x sp', RepS X.K X.mp g S H ∧ RepE X.K g sp σ ∧ RepV X.K g x v ∧ t x sp S = some sp' ∧ ∀ σ' g', g.le g' → RepS X.K X.mp g' S H → RepE X.K g' sp' σ' → Near is σ σ' → Q σ' H
abbrev Sgs := List PV → Sl → Sto → Option Sl
def rdGs (X : Cx) (is : List Nat) (t : Sgs) : TGs := fun vs σ H Q => ∃ g sp S xs sp', RepS X.K X.mp g S H ∧ RepE X.K g sp σ ∧ RepVs X.K g xs vs ∧ t xs sp S = some sp' ∧ ∀ σ' g', g.le g' → RepS X.K X.mp g' S H → RepE X.K g' sp' σ' → Near is σ σ' → Q σ' H
section
variable {X : Cx} {pos : Pos} {e : Expr} {es : List Expr}
theorem _root_.L2.PG.imp {t t' : TG} (h : PG X e t) (i : ∀ v σ H Q, t' v σ H Q → t v σ H Q) : PG X e t' := ⟨fun pins s σ H v u Q I r q => h.run pins s σ H v u Q I r (i _ _ _ _ q)⟩
theorem _root_.L2.PGs.imp {t t' : TGs} (h : PGs X es t) (i : ∀ v σ H Q, t' v σ H Q → t v σ H Q) : PGs X es t' := ⟨fun pins s σ H v u Q I r q => h.run pins s σ H v u Q I r (i _ _ _ _ q)⟩
def sgName (i : Nat) : Sg := fun v sp _ => some (sp.set i (some v))
theorem sg_name (i : Nat) {x : Str} (hN : X.N.Nodup) (hi : X.N[i]? = some x := by rfl) (hx : Loc X.env.scope x := by first | exact Or.inl rfl | exact Or.inr rfl) (hf : X.fn x = true ∨ X.env.scope.names.lookup x = some .local := by first | exact .inl rfl | exact .inr rfl) : PG X (.Name x pos) (rdG X [i] (sgName i)) :=
  (pg_name hN hi hx hf).imp fun v σ H Q ⟨g, sp, S, y, sp', hS, hE, r, e, k⟩ => by
    cases e
    exact k _ g (.refl _) hS (hE.set r i) ⟨by simp, fun j hj => List.getElem?_set_ne (fun e => hj (by simp [e]))⟩
def sgNil : Sgs := fun vs sp _ => match vs with
  | [] => some sp
  | _ :: _ => none
def sgCons (t : Sg) (u : Sgs) : Sgs := fun vs sp S => match vs with
  | [] => none
  | v :: r => (t v sp S).bind fun sp1 => u r sp1 S
theorem sgs_nil : PGs X [] (rdGs X [] sgNil) := pgs_nil.imp fun vs σ H Q ⟨g, sp, S, xs, sp', hS, hE, r, e, k⟩ => by
  cases xs with
  | nil =>
    cases e
    exact ⟨r, k _ g (.refl _) hS hE .refl⟩
  | cons x xs => cases e
theorem sgs_cons {t : Sg} {u : Sgs} {is js : List Nat} (h1 : PG X e (rdG X is t)) (h2 : PGs X es (rdGs X js u))
    (hs : (assignEach (e :: es) X.env).map (·.2) = assign e X.env :: (assignEach es X.env).map (·.2) := by rfl) : PGs X (e :: es) (rdGs X (is ++ js) (sgCons t u)) := (pgs_cons h1 h2 hs).imp fun vs σ H Q ⟨g, sp, S, xs, sp', hS, hE, r, e, k⟩ => by
  cases xs with
  | nil => cases e
  | cons x xs =>
    obtain ⟨v, vr, e1, r1, r2⟩ := r
    have e' : ((t x sp S).bind fun sp1 => u xs sp1 S) = some sp' := e
    cases h : t x sp S with
    | none => rw [h] at e'; cases e'
    | some sp1 =>
      rw [h] at e'
      exact ⟨v, vr, e1, g, sp, S, x, sp1, hS, hE, r1, h, fun σ1 g1 l q1 q2 n1 => ⟨g1, sp1, S, xs, sp', q1, q2, RepVs.mono l _ _ r2, e', fun σ' g' l' q3 q4 n2 => k σ' g' (l.trans l') q3 q4 (n1.trans n2)⟩⟩
/-- (a, b, ..) = a tuple -/
def sgTup (n : Nat) (t : Sgs) : Sg := fun v sp S => match v with
  | .tup xs => if xs.length = n then t xs sp S else none
  | _ => none
theorem sg_tup {k : Nat} {t : Sgs} {n : Nat} {is : List Nat} (hc : X.calm = true) (h : PGs X es (rdGs X is t)) (hn : (assignEach es X.env).length = n := by rfl) (hst : (assignEach es X.env).findIdx? (·.1) = none := by rfl) : PG X (.Tuple es k pos) (rdG X is (sgTup n t)) :=
  (pg_tup hc h hn hst).imp fun v σ H Q ⟨g, sp, S, y, sp', hS, hE, r, e, k⟩ => by
    cases y with
    | tup xs =>
      obtain ⟨a, vs, e1, h1, r1⟩ := r
      have e' : (if xs.length = n then t xs sp S else none) = some sp' := e
      split at e'
      · rename_i hl
        exact ⟨a, vs, e1, TpQ.t hS.fz h1, by rw [← r1.length]; exact hl, g, sp, S, xs, sp', hS, hE, r1, e', k⟩
      · cases e'
    | _ => cases e
def ssAsg (te : Sx) (t : Sg) : Ss := fun sp S => bindS (te sp S) sp fun v S1 => match t v sp S1 with
  | some sp' => .nx sp' S1
  | none => .stuck
/-- a, b = x, y with plain local names -/
def ssPar (i j : Nat) (ta : Sa) : Ss := fun sp S => bindS (ta sp S) sp fun vs S1 => match vs with
  | [v, w] => .nx ((sp.set i (some v)).set j (some w)) S1
  | _ => .stuck
theorem ss_par (i j : Nat) {x y : Str} {a b : Expr} {ta : Sa} {px py pt : Pos} {kt k2 pt2} (hc : X.calm = true) (hN : X.N.Nodup) (ha : PA X [a, b] (rdA X ta)) (hi : X.N[i]? = some x := by rfl) (hj : X.N[j]? = some y := by rfl) (hij : i ≠ j := by decide)
    (hx : X.env.scope.names.lookup x = some .local := by rfl) (hy : X.env.scope.names.lookup y = some .local := by rfl)
    (hw : swappedStores [.Tuple [.Name x px, .Name y py] kt pt] (.Tuple [a, b] k2 pt2) X.env = pure (some [x, y]) := by rfl)
    (hs : swapsWithSole [.Tuple [.Name x px, .Name y py] kt pt] (.Tuple [a, b] k2 pt2) pos.line X.env = pure false := by rfl) :
    PS X (.Assign [.Tuple [.Name x px, .Name y py] kt pt] (.Tuple [a, b] k2 pt2) pos) (rdS X (ssPar i j ta)) := (ps_par hc hN hi hj hij hx hy ha hw hs).imp fun D σ H ⟨g, sp, S, hS, hE, p⟩ => by
  refine ⟨g, sp, S, hS, hE, (PostS.seq p).imp (fun _ _ x => x) fun vs H1 ⟨as, g1, S1, l1, q1, r1, p1⟩ => ?_⟩
  match as, r1, p1 with
  | [], _, p1 => exact p1.elim
  | [_], _, p1 => exact p1.elim
  | _ :: _ :: _ :: _, _, p1 => exact p1.elim
  | [v, w], r1, p1 =>
    obtain ⟨v', r', e1, r2, w', r'', e2, r3, e3⟩ := r1
    subst e1 e2
    cases (show r'' = [] from e3)
    exact ⟨v', w', rfl, p1 _ H1 g1 (.refl _) q1 (((hE.mono l1).set r2 i).set r3 j)⟩
end
end MX
end
section
namespace L2
open PySem PySem.Spec PyProof.Rows
def mkT (items : Array Value) : Obj := { cls := .type "tuple", data := .seq items }
section
variable {X : Cx} {pins : List (Addr × Obj)} {σ : St} {H : Hp} {s : Shared}
/-- a new tuple laid behind all -/
theorem newT {vs : List V} {us : List Value} {Q : VK} (I : Inv X pins σ H s) (hz : vs.length ≤ sizeLine) (r : Vals vs us) (q : ∀ p (o : Obj), H p = none → o.dict = none → Q (.ref p) (upd H p (.frz o (.tup vs)))) :
    EP X pins σ Q (.ref s.heap.objs.size) { s with heap := s.heap.push { cls := .type "tuple", data := .seq us.toArray } } := by
  have fr := I.hok.fresh (Nat.le_refl s.heap.objs.size)
  refine ⟨.ref s.heap.objs.size, upd H s.heap.objs.size (.frz (mkT us.toArray) (.tup vs)), ?_, rfl, q _ _ fr rfl⟩
  exact I.laid (t' := s.toks) (fun b ob z => Heap.get?_push_of_some _ z) (Nat.le_refl _) ⟨Heap.get?_push_size _ rfl, hz, us, r, IsTup.new _ _⟩
end
section
variable {X : Cx}
def rCatF (K : PySem.W.Frag) : R2 := fun x y H Q => ∃ a b, ∃ xs ys : List V, x = .ref a ∧ y = .ref b ∧ SqT K H a xs ∧ SqT K H b ys ∧ xs.length + ys.length ≤ sizeLine ∧
  (xs = [] → Q (.ref b) H) ∧ (xs ≠ [] → ys = [] → Q (.ref a) H) ∧ ∀ p (o : Obj), H p = none → o.dict = none → Q (.ref p) (upd H p (.frz o (.tup (xs ++ ys))))
theorem op_catF : OpR X (binaryOp .Add) (rCatF X.K) := fun pins s σ H x y v u Q I rx ry ⟨a, b, xs, ys, ex, ey, ta, tb, hz, q0, q1, q2⟩ => by
  subst ex ey
  by_cases hx : xs = []
  · exact op_catA pins s σ H _ _ v u Q I rx ry ⟨a, b, xs, ys, rfl, rfl, ta, tb, hz, q0, q1, fun z => absurd hx z⟩
  · have ea : v = .ref a := rx
    have eb : u = .ref b := ry
    subst ea eb
    obtain ⟨is1, k1, t1, _⟩ := I.tuple ta
    obtain ⟨is2, k2, t2, _⟩ := I.tuple tb
    have hl : is1.length + is2.length ≤ sizeLine := by rw [← k1.length, ← k2.length]; exact hz
    refine HT.cat_tup t1 t2 (fun z => hx (k1.nil_iff.mp z)) (fun z => ⟨.ref a, H, I, rfl, q1 hx (k2.nil_iff.mp z)⟩) (fun _ => ?_) hl
    exact newT I (by rw [List.length_append]; exact hz) (k1.append k2) q2
def rSlF (K : PySem.W.Frag) : V → Option Int → Option Int → Hp → VK → Prop := fun x lo hi H Q => ∃ a, ∃ xs : List V, x = .ref a ∧ SqT K H a xs ∧
  (HT.sIx xs.length 0 lo = 0 ∧ HT.sIx xs.length xs.length hi = xs.length → Q (.ref a) H) ∧ ∀ p (o : Obj), H p = none → o.dict = none → Q (.ref p) (upd H p (.frz o (.tup (cutV xs lo hi))))
theorem sl_tupF : SlR X (rSlF X.K) := fun pins s σ H x v vl vu lo hi sl Q I rx hs pl pu ⟨a, xs, ex, ta, q1, q2⟩ => by
  subst ex
  by_cases hw : HT.sIx xs.length 0 lo = 0 ∧ HT.sIx xs.length xs.length hi = xs.length
  · exact sl_tupA pins s σ H _ v vl vu lo hi sl Q I rx hs pl pu ⟨a, xs, rfl, ta, q1, fun z => absurd hw z⟩
  · have ea : v = .ref a := rx
    subst ea
    obtain ⟨its, k, t, hz⟩ := I.tuple ta
    have hn : its.toArray.size = xs.length := by simp [k.length]
    refine ⟨"tuple", _, PyProof.Rows.slot_tuple_getitem.lookup, t.typeIs, HT.getItem_tuple_cut t hs pl pu (by rw [hn]; exact hw) ?_ (by rw [hn]; exact hz)⟩
    rw [hn]
    exact newT I (Nat.le_trans (cutV_length xs lo hi) hz) ((k.drop (HT.sIx xs.length 0 lo)).take (HT.sIx xs.length xs.length hi - HT.sIx xs.length 0 lo)) q2
/-- t * k, t not empty, k from two on -/
def rRepF (K : PySem.W.Frag) : R2 := fun x y H Q => ∃ l k, ∃ xs : List V, x = .ref l ∧ y = .int k ∧ SqT K H l xs ∧ xs ≠ [] ∧ 2 ≤ k ∧ k ≤ 1000 ∧ xs.length ≤ 1000 ∧ ∀ p (o : Obj), H p = none → o.dict = none → Q (.ref p) (upd H p (.frz o (.tup (List.replicate k.toNat xs).flatten)))
theorem op_repF : OpR X (binaryOp .Mult) (rRepF X.K) := fun pins s σ H x y v u Q I rx ry ⟨l, k, xs, ex, ey, ta, ne, k2, k3, hz, q⟩ => by
  subst ex ey
  obtain ⟨t, eu⟩ := ry
  have ev : v = .ref l := rx
  subst eu ev
  obtain ⟨its, r, tt, _⟩ := I.tuple ta
  obtain ⟨⟨cls, dd, dt, sl⟩, ho, e1, n, e2⟩ := tt
  dsimp only at e1 e2
  subst e1 e2
  have len : xs.length = its.length := r.length
  have pos : 0 < its.length := by rw [← len]; exact List.length_pos_iff.mpr ne
  have emp : its.toArray.isEmpty = false := by
    cases its with
    | nil => exact absurd pos (Nat.lt_irrefl 0)
    | cons b c => rfl
  have siz : its.toArray.size = xs.length := by simp [len]
  have kn : k.toNat ≤ 1000 := by omega
  have prod : k.toNat * xs.length ≤ 1000000 := Nat.mul_le_mul kn hz
  have tot : (List.replicate k.toNat its).flatten.length ≤ sizeLine := by
    rw [PyProof.Rows.lm_len_rep_flat, ← len, sizeLine_eq]; omega
  have tot2 : (List.replicate k.toNat xs).flatten.length ≤ sizeLine := by
    rw [PyProof.Rows.lm_len_rep_flat, sizeLine_eq]; omega
  have d0 : (decide (k < -(2 ^ 63)) || decide (k ≥ 2 ^ 63)) = false := by
    have a : ¬ k < -(2 ^ 63) := by omega
    have b : ¬ k ≥ 2 ^ 63 := by omega
    rw [decide_eq_false a, decide_eq_false b] <;> rfl
  have d1 : (its.toArray.isEmpty || k == 1) = false := by
    have : (k == 1) = false := by simpa using (show ¬ k = 1 by omega)
    rw [emp, this]; rfl
  have d2 : (decide (k ≤ 0) || its.toArray.isEmpty) = false := by
    have : decide (k ≤ 0) = false := by simpa using (show 0 < k by omega)
    rw [emp, this]; rfl
  have mul : ((its.toArray.size : Nat) : Int) * k ≤ 1000000 := by
    have : ((its.toArray.size : Nat) : Int) * k = ((k.toNat * xs.length : Nat) : Int) := by
      rw [siz, Int.mul_comm, Int.natCast_mul, show ((k.toNat : Nat) : Int) = k by omega]
    rw [this]; omega
  have d4 : Builtin.Tuple.tupleTooMany (((its.toArray.size : Nat) : Int) * k) = false := by
    unfold Builtin.Tuple.tupleTooMany
    simp only [sizeLine_eq, decide_eq_false_iff_not]
    omega
  have M := tuple_mulW l its.toArray n dd sl k t d0 d1 d2 (by omega) d4 (by rw [size_rep, List.size_toArray]; exact tot)
  refine wpAny_binaryOp_repeat_ref (T := "tuple") (U := "int") (by decide) ⟨_, ho, rfl⟩ (fun s' => typeIs_int s' k t) noFill_tuple_mul F.fills_int_mul F.slot_int_rmul repeat_tuple F.slot_int_index.lookup ?_
  refine call_meets F.slot_int_rmul (typeIs_int s k t) F.entry_int_rmul (F.args_int_rmul_2 _ _) (int_rmul_tuple k t l its.toArray n dd sl) ⟨ho, rfl, ⟨_, ho, rfl⟩, ?_⟩
  refine call_meets F.slot_tuple_mul ⟨_, ho, rfl⟩ F.entry_tuple_mul (F.args_tuple_mul_2 _ _) M ⟨ho, ?_⟩
  rw [size_rep]
  exact newT I tot2 (r.rep k.toNat) q
end
end L2
end
section
namespace MX
open PySem PySem.Spec PyProof.Rows L2
def listOf (S : Sto) : PV → Option (List PV)
  | .lst xs => some xs
  | .ref n => match S[n]? with
    | some (.lst xs) => some xs
    | _ => none
  | _ => none
def seqOf (S : Sto) : PV → Option (List PV)
  | .tup xs => some xs
  | .lst xs => some xs
  | .ref n => match S[n]? with
    | some (.lst xs) => some xs
    | _ => none
  | _ => none
section
variable {K : PySem.W.Frag} {mg : MP} {g : Gh} {S : Sto} {H : Hp} {a : PV} {x : V} {xs : List PV}
theorem RepS.list (hS : RepS K mg g S H) (r : RepV K g a x) (h : listOf S a = some xs) : ∃ p vs, x = .ref p ∧ LsQ K H p vs ∧ RepVs K g xs vs := by
  cases a with
  | lst ys =>
    cases (show some ys = some xs from h)
    obtain ⟨p, vs, e, h1, h2⟩ := r
    exact ⟨p, vs, e, LsQ.mono hS.fz h1, h2⟩
  | ref n =>
    obtain ⟨p, e, h1⟩ := r
    obtain ⟨so, h2⟩ := hS.at_ h1
    unfold listOf at h
    simp only [h2] at h
    cases so with
    | lst ys =>
      cases h
      obtain ⟨vs, q1, q2⟩ := hS.ob n _ p h2 h1
      exact ⟨p, vs, e, .inl (.inl q1), q2⟩
    | _ => cases h
  | _ => cases h
theorem RepS.seq (hS : RepS K mg g S H) (r : RepV K g a x) (h : seqOf S a = some xs) : ∃ p vs, x = .ref p ∧ (SqL K H p vs ∨ SqT K H p vs) ∧ RepVs K g xs vs := by
  cases a with
  | tup ys =>
    cases (show some ys = some xs from h)
    obtain ⟨p, vs, e, h1, h2⟩ := r
    exact ⟨p, vs, e, .inr (TpQ.t hS.fz h1), h2⟩
  | lst ys =>
    obtain ⟨p, vs, e, h1, h2⟩ := hS.list r (xs := xs) h
    exact ⟨p, vs, e, .inl h1.sq, h2⟩
  | ref n =>
    obtain ⟨p, vs, e, h1, h2⟩ := hS.list r (xs := xs) h
    exact ⟨p, vs, e, .inl h1.sq, h2⟩
  | _ => cases h
end
mutual
def toD : PV → Option PyData
  | .non => some .none
  | .bl b => some (.bool b)
  | .int i => some (.int i)
  | .str x => some (.str x)
  | .tup xs => (toDs xs).map PyData.tuple
  | .lst xs => (toDs xs).map PyData.list
  | .ref _ => none
  | .adr _ _ _ => none
  | .dic _ _ => none
def toDs : List PV → Option (List PyData)
  | [] => some []
  | x :: xs => match toD x, toDs xs with
    | some d, some ds => some (d :: ds)
    | _, _ => none
end
/-- data, a list of the store read -/
def dOf (S : Sto) : PV → Option PyData
  | .ref n => match S[n]? with
    | some (.lst xs) => (toDs xs).map PyData.list
    | _ => none
  | v => toD v
section
variable {K : PySem.W.Frag} {mg : MP} {g : Gh} {S : Sto} {H : Hp}
mutual
theorem toD_rep {H : Hp} (f : ∀ a o, g.fz a = some o → H a = some o) : ∀ (a : PV) (x : V) (d : PyData), RepV K g a x → toD a = some d → Dp K H x d
  | .non, _, _, r, h => by cases (show _ = V.non from r); cases (show some _ = some _ from h); exact .non
  | .bl b, _, _, r, h => by cases (show _ = V.bl b from r); cases (show some _ = some _ from h); exact .bl b
  | .int i, _, _, r, h => by cases (show _ = V.int i from r); cases (show some _ = some _ from h); exact .int i
  | .str z, _, _, r, h => by cases (show _ = V.str z from r); cases (show some _ = some _ from h); exact .str z
  | .tup xs, _, d, r, h => by
    obtain ⟨p, vs, e, h1, h2⟩ := r
    subst e
    have h' : (toDs xs).map PyData.tuple = some d := h
    cases q : toDs xs with
    | none => rw [q] at h'; cases h'
    | some ds =>
      rw [q] at h'; cases h'
      exact .tup (TpQ.t f h1) (toDs_rep f xs vs ds h2 q)
  | .lst xs, _, d, r, h => by
    obtain ⟨p, vs, e, h1, h2⟩ := r
    subst e
    have h' : (toDs xs).map PyData.list = some d := h
    cases q : toDs xs with
    | none => rw [q] at h'; cases h'
    | some ds =>
      rw [q] at h'; cases h'
      exact .lst (LsQ.mono f h1).sq (toDs_rep f xs vs ds h2 q)
  | .ref _, _, _, _, h => by cases h
  | .adr _ _ _, _, _, _, h => by cases h
  | .dic _ _, _, _, _, h => by cases h
theorem toDs_rep {H : Hp} (f : ∀ a o, g.fz a = some o → H a = some o) : ∀ (xs : List PV) (vs : List V) (ds : List PyData), RepVs K g xs vs → toDs xs = some ds → DpAll K H vs ds
  | [], _, _, r, h => by cases (show _ = [] from r); cases (show some _ = some _ from h); exact .nil
  | x :: xs, _, ds, r, h => by
    obtain ⟨v, vr, e, r1, r2⟩ := r
    subst e
    have h' : (match toD x, toDs xs with
      | some d, some ds => some (d :: ds)
      | _, _ => none) = some ds := h
    cases q1 : toD x with
    | none => rw [q1] at h'; cases h'
    | some d =>
      cases q2 : toDs xs with
      | none => rw [q1, q2] at h'; cases h'
      | some ds' =>
        rw [q1, q2] at h'; cases h'
        exact .cons (toD_rep f x v d r1 q1) (toDs_rep f xs vr ds' r2 q2)
end
theorem RepS.data (hS : RepS K mg g S H) {a : PV} {x : V} {d : PyData} (r : RepV K g a x) (h : dOf S a = some d) : Dp K H x d := by
  cases a with
  | ref n =>
    obtain ⟨p, e, h1⟩ := r
    obtain ⟨so, h2⟩ := hS.at_ h1
    unfold dOf at h
    simp only [h2] at h
    cases so with
    | lst ys =>
      obtain ⟨vs, q1, q2⟩ := hS.ob n _ p h2 h1
      have h' : (toDs ys).map PyData.list = some d := h
      cases q : toDs ys with
      | none => rw [q] at h'; cases h'
      | some ds =>
        rw [q] at h'; cases h'
        subst e
        exact .lst (SqL.of q1) (toDs_rep hS.fz ys vs ds q2 q)
    | _ => cases h
  | adr b xs vs => cases h
  | dic ks xs => cases h
  | non => exact toD_rep hS.fz _ _ _ r h
  | bl b => exact toD_rep hS.fz _ _ _ r h
  | int i => exact toD_rep hS.fz _ _ _ r h
  | str z => exact toD_rep hS.fz _ _ _ r h
  | tup xs => exact toD_rep hS.fz _ _ _ r h
  | lst xs => exact toD_rep hS.fz _ _ _ r h
end
def vAdd : V2 := fun a b S => match a, b with
  | .int i, .int j => some (.int (i + j), S)
  | .str x, .str y => if x.length + y.length ≤ sizeLine then some (.str (x ++ y), S) else none
  | .tup xs, .tup ys => if xs.length + ys.length ≤ sizeLine then some (.tup (xs ++ ys), S) else none
  | a, b => match listOf S a, listOf S b with
    | some xs, some ys => if xs.length + ys.length ≤ sizeLine then some (.lst (xs ++ ys), S) else none
    | _, _ => none
def vSub : V2 := fun a b S => match a, b with
  | .int i, .int j => some (.int (i - j), S)
  | _, _ => none
instance (i j : Int) : Decidable (CMul i j) := by unfold CMul; infer_instance
instance (i j : Int) : Decidable (CDivN i j) := by unfold CDivN; infer_instance
instance (i j : Int) : Decidable (CPow i j) := by unfold CPow; infer_instance
def vMul : V2 := fun a b S => match a, b with
  | .int i, .int j => if CMul i j then some (.int (i * j), S) else none
  | .tup xs, .int k => if xs ≠ [] ∧ 2 ≤ k ∧ k ≤ 1000 ∧ xs.length ≤ 1000 then some (.tup (List.replicate k.toNat xs).flatten, S) else none
  | a, .int k => match listOf S a with
    | some xs => if -(2 ^ 63) ≤ k ∧ k < 2 ^ 63 ∧ xs.length * k.toNat ≤ sizeLine then some (.lst (List.replicate k.toNat xs).flatten, S) else none
    | none => none
  | _, _ => none
def vMod : V2 := fun a b S => match a, b with
  | .int i, .int j => if j ≠ 0 then some (.int (i.fmod j), S) else none
  | _, _ => none
def vFDiv : V2 := fun a b S => match a, b with
  | .int i, .int j => if CDivN i j then some (.int (i.fdiv j), S) else none
  | _, _ => none
def vPow : V2 := fun a b S => match a, b with
  | .int i, .int j => if CPow i j then some (.int (i ^ j.toNat), S) else none
  | _, _ => none
def vNeg : V1 := fun a S => match a with
  | .int i => some (.int (-i), S)
  | _ => none
section
variable {X : Cx}
theorem op_mod' : Op2 X (binaryOp .Mod) vMod := by
  intro pins s σ H x y v u Q I rx ry ⟨g, S, a, b, hS, r1, r2, p⟩
  cases a <;> cases b <;> try exact p.elim
  rename_i i j
  unfold vMod at p
  simp only at p
  split at p
  · rename_i hj
    exact op_modN pins s σ H x y v u Q I rx ry ⟨i, j, r1, r2, hj, p.now hS rfl⟩
  · exact p.elim
theorem op_fdiv' : Op2 X (binaryOp .FloorDiv) vFDiv := by
  intro pins s σ H x y v u Q I rx ry ⟨g, S, a, b, hS, r1, r2, p⟩
  cases a <;> cases b <;> try exact p.elim
  rename_i i j
  unfold vFDiv at p
  simp only at p
  split at p
  · rename_i hj
    exact op_fdivN pins s σ H x y v u Q I rx ry ⟨i, j, r1, r2, hj, p.now hS rfl⟩
  · exact p.elim
theorem op_pow' : Op2 X (binaryOp .Pow) vPow := by
  intro pins s σ H x y v u Q I rx ry ⟨g, S, a, b, hS, r1, r2, p⟩
  cases a <;> cases b <;> try exact p.elim
  rename_i i j
  unfold vPow at p
  simp only at p
  split at p
  · rename_i hj
    exact op_pow pins s σ H x y v u Q I rx ry ⟨i, j, r1, r2, hj, p.now hS rfl⟩
  · exact p.elim
theorem un_neg' : Un1 X (unaryOp .USub) vNeg := by
  intro pins s σ H x v Q I rx ⟨g, S, a, hS, r1, p⟩
  cases a <;> try exact p.elim
  rename_i i
  exact un_neg pins s σ H x v Q I rx ⟨i, r1, p.now hS rfl⟩
/-- xs + ys, lists that are read -/
theorem op_catL : OpR X (binaryOp .Add) (fun x y H Q => ∃ l b xs zs, x = .ref l ∧ y = .ref b ∧ LsQ X.K H l xs ∧ LsQ X.K H b zs ∧ xs.length + zs.length ≤ sizeLine ∧ ∀ p, H p = none → Q (.ref p) (upd H p (.lst (xs ++ zs)))) := by
  intro pins s σ H x y v u Q I rx ry h
  obtain ⟨l, b, xs, zs, rfl, rfl, hH, hB, hz, q⟩ := h
  cases rx
  cases ry
  obtain ⟨its, n, z, r, e⟩ := hH.obj I
  obtain ⟨its2, n2, z2, r2, e2⟩ := hB.obj I
  have hl := r.length
  have hl2 := r2.length
  refine PySem.P.add_list e e2 ?_ (by rw [List.size_toArray, List.size_toArray]; omega)
  have ea : its.toArray ++ its2.toArray = (its ++ its2).toArray := by simp
  rw [ea]
  exact ⟨.ref _, _, I.lnew (t' := s.toks) (r.append r2) (by rw [List.length_append]; omega), rfl, q _ I.fresh⟩
theorem catL_use {g : Gh} {S : Sto} {a b : PV} {xs ys : List PV} {x y : V} {Q : VK} {H : Hp} (hS : RepS X.K X.mp g S H) (r1 : RepV X.K g a x) (r2 : RepV X.K g b y) (e1 : listOf S a = some xs) (e2 : listOf S b = some ys)
    (p : PostO X g (RepV X.K) (if xs.length + ys.length ≤ sizeLine then some (.lst (xs ++ ys), S) else none) Q) :
    ∃ l b xs zs, x = .ref l ∧ y = .ref b ∧ LsQ X.K H l xs ∧ LsQ X.K H b zs ∧ xs.length + zs.length ≤ sizeLine ∧ ∀ p, H p = none → Q (.ref p) (upd H p (.lst (xs ++ zs))) := by
  split at p
  · rename_i hl
    obtain ⟨l, vs, q1, q2, q3⟩ := hS.list r1 e1
    obtain ⟨m, ws, q4, q5, q6⟩ := hS.list r2 e2
    exact ⟨l, m, vs, ws, q1, q4, q2, q5, by rw [← q3.length, ← q6.length]; exact hl, p.lst hS (q3.append q6)⟩
  · exact p.elim
theorem op_add' : Op2 X (binaryOp .Add) vAdd := by
  intro pins s σ H x y v u Q I rx ry ⟨g, S, a, b, hS, r1, r2, p⟩
  have lists : ∀ xs ys, listOf S a = some xs → listOf S b = some ys → PostO X g (RepV X.K) (if xs.length + ys.length ≤ sizeLine then some (PV.lst (xs ++ ys), S) else none) Q →
      wpAny (model X.prog X.w) X.A (binaryOp .Add v u) (EP X pins σ Q) X.xe s := fun xs ys e1 e2 p => op_catL pins s σ H x y v u Q I rx ry (catL_use hS r1 r2 e1 e2 p)
  unfold vAdd at p
  split at p
  · rename_i i j
    exact op_add pins s σ H x y v u Q I rx ry ⟨i, j, r1, r2, p.now hS rfl⟩
  · rename_i z w
    split at p
    · rename_i hl
      exact op_add_str pins s σ H x y v u Q I rx ry ⟨z, w, r1, r2, hl, p.now hS rfl⟩
    · exact p.elim
  · rename_i xs ys
    split at p
    · rename_i hl
      obtain ⟨l, vs, q1, q2, q3⟩ := r1
      obtain ⟨m, ws, q4, q5, q6⟩ := r2
      refine op_catF pins s σ H x y v u Q I rx ry ⟨l, m, vs, ws, q1, q4, TpQ.t hS.fz q2, TpQ.t hS.fz q5, by rw [← q3.length, ← q6.length]; exact hl, fun e => ?_, fun _ e => ?_, p.tup hS (q3.append q6)⟩
      · subst e
        have hx : xs = [] := List.eq_nil_of_length_eq_zero q3.length
        subst hx
        exact p.now hS ⟨m, ws, rfl, q5, q6⟩
      · subst e
        have hy : ys = [] := List.eq_nil_of_length_eq_zero q6.length
        subst hy
        refine p.now hS ⟨l, vs, rfl, q2, ?_⟩
        simpa using q3
    · exact p.elim
  · split at p
    · rename_i xs ys e1 e2
      exact lists xs ys e1 e2 p
    · exact p.elim
theorem op_repL : OpR X (binaryOp .Mult) (fun x y H Q => ∃ l k xs, x = .ref l ∧ y = .int k ∧ LsQ X.K H l xs ∧ -(2 ^ 63) ≤ k ∧ k < 2 ^ 63 ∧ xs.length * k.toNat ≤ sizeLine ∧
  ∀ p, H p = none → Q (.ref p) (upd H p (.lst (List.replicate k.toNat xs).flatten))) := by
  intro pins s σ H x y v u Q I rx ry h
  obtain ⟨l, k, xs, rfl, rfl, hH, h1, h2, hz, q⟩ := h
  cases rx
  obtain ⟨t, rfl⟩ := ry
  obtain ⟨its, n, z, r, e⟩ := hH.obj I
  have hl := r.length
  have hlen : its.toArray.size * k.toNat ≤ sizeLine := by rw [List.size_toArray, ← hl]; exact hz
  have hcap : ¬ its.toArray.size * k.toNat > (2 ^ 63 - 1) / 8 := by
    have : (sizeLine : Nat) ≤ (2 ^ 63 - 1) / 8 := by decide
    omega
  have hfit : ¬ (!Builtin.List.listFitsIndex k) = true := by
    rw [fitsIndex_both h1 h2]
    exact Bool.false_ne_true
  have hlong : ¬ Builtin.List.listTooLong (its.toArray.size * k.toNat) = true := by
    rw [notLongL hlen]
    exact Bool.false_ne_true
  have hnew : List.foldl (fun x1 x2 => x1 ++ x2) #[] (List.replicate (if its.toArray.isEmpty = true then 0 else k.toNat) its.toArray) = (List.replicate k.toNat its).flatten.toArray := by
    have f0 : ∀ m : Nat, List.foldl (fun x1 x2 => x1 ++ x2) #[] (List.replicate m its.toArray) = (List.replicate m its).flatten.toArray := fun m => by
      have := foldl_rep its m []
      rw [List.nil_append] at this
      exact this
    rw [f0]
    cases its with
    | nil => simp
    | cons a r' => rw [if_neg (by simp)]
  refine wpAny_binaryOp_repeat_ref (T := "list") (U := "int") (by decide) ⟨_, e, rfl⟩ (fun s' => typeIs_int s' k t) noFill_list_mul F.fills_int_mul F.slot_int_rmul repeat_list F.slot_int_index.lookup
    (call_meets F.slot_int_rmul (typeIs_int s k t) F.entry_int_rmul (F.args_int_rmul_2 _ _) (int___rmul___int_list k t l its.toArray n)
      ⟨e, rfl, ⟨_, e, rfl⟩, call_meets F.slot_list_mul ⟨_, e, rfl⟩ F.entry_list_mul (F.args_list_mul_2 _ _) (AutoListH.list___mul___list_int_3 l its.toArray n k t hfit hcap hlong) ⟨e, ?_⟩⟩)
  rw [hnew]
  exact ⟨.ref _, _, I.lnew (t' := s.toks) (r.rep k.toNat) (by rw [PyProof.Rows.lm_len_rep_flat, Nat.mul_comm]; exact hz), rfl, q _ I.fresh⟩
theorem RepVs.rep {K : PySem.W.Frag} {g : Gh} {xs : List PV} {vs : List V} (h : RepVs K g xs vs) : ∀ n : Nat, RepVs K g (List.replicate n xs).flatten (List.replicate n vs).flatten
  | 0 => .nil
  | n + 1 => by rw [List.replicate_succ, List.replicate_succ, List.flatten_cons, List.flatten_cons]; exact h.append (RepVs.rep h n)
theorem op_mul' : Op2 X (binaryOp .Mult) vMul := by
  intro pins s σ H x y v u Q I rx ry ⟨g, S, a, b, hS, r1, r2, p⟩
  unfold vMul at p
  split at p
  · rename_i i j
    split at p
    · rename_i hc
      exact op_mul pins s σ H x y v u Q I rx ry ⟨i, j, r1, r2, hc, p.now hS rfl⟩
    · exact p.elim
  · rename_i xs k
    split at p
    · rename_i hc
      obtain ⟨h1, h2, h3, h4⟩ := hc
      obtain ⟨l, vs, q1, q2, q3⟩ := r1
      have hvs : vs ≠ [] := fun e => h1 (by subst e; exact List.eq_nil_of_length_eq_zero q3.length)
      exact op_repF pins s σ H x y v u Q I rx ry ⟨l, k, vs, q1, r2, TpQ.t hS.fz q2, hvs, h2, h3, by rw [← q3.length]; exact h4, p.tup hS (q3.rep _)⟩
    · exact p.elim
  · rename_i k _ _
    split at p
    · rename_i xs e1
      split at p
      · rename_i hc
        obtain ⟨h1, h2, h3⟩ := hc
        obtain ⟨l, vs, q1, q2, q3⟩ := hS.list r1 e1
        exact op_repL pins s σ H x y v u Q I rx ry ⟨l, k, vs, q1, r2, q2, h1, h2, by rw [← q3.length]; exact h3, p.lst hS (q3.rep _)⟩
      · exact p.elim
    · exact p.elim
  · exact p.elim
end
def vEq : V2 := fun a b S => match dOf S a, dOf S b with
  | some d, some e => if SeqAt.shaped d = true ∧ SeqAt.shaped e = true then some (.bl (PyData.eqv d e), S) else none
  | _, _ => none
def vNe : V2 := fun a b S => match dOf S a, dOf S b with
  | some d, some e => if SeqAt.shaped d = true ∧ SeqAt.shaped e = true then some (.bl (!PyData.eqv d e), S) else none
  | _, _ => none
def vLt : V2 := fun a b S => match a, b with
  | .int i, .int j => some (.bl (decide (i < j)), S)
  | _, _ => none
def vLe : V2 := fun a b S => match a, b with
  | .int i, .int j => some (.bl (decide (i ≤ j)), S)
  | _, _ => none
def vGt : V2 := fun a b S => match a, b with
  | .int i, .int j => some (.bl (decide (j < i)), S)
  | _, _ => none
def vGe : V2 := fun a b S => match a, b with
  | .int i, .int j => some (.bl (decide (j ≤ i)), S)
  | _, _ => none
/-- b in a's way: the answer -/
def inAns (S : Sto) (a b : PV) : Option Bool := match a, b with
  | .str x, .str y => some (!(Builtin.Str.occurrences y x 0 y.length 1).isEmpty)
  | a, b => match dOf S a, dOf S b with
    | some d, some (.list ds) => if SeqAt.shaped d = true ∧ SeqAt.shaped (.list ds) = true then some (ds.any fun z => PyData.eqv z d) else none
    | some d, some (.tuple ds) => if SeqAt.shaped d = true ∧ SeqAt.shaped (.tuple ds) = true then some (ds.any fun z => PyData.eqv z d) else none
    | _, _ => none
def vIn : V2 := fun a b S => (inAns S a b).map fun k => (.bl k, S)
def vIsN : V2 := fun a b S => match a, b with
  | .non, .non => some (.bl true, S)
  | _, .non => some (.bl false, S)
  | _, _ => none
def vIsNotN : V2 := fun a b S => match a, b with
  | .non, .non => some (.bl false, S)
  | _, .non => some (.bl true, S)
  | _, _ => none
section
variable {X : Cx}
theorem op_eq' (hu : X.A.units + 64 < cLine) : Op2 X (compareOp .Eq) vEq := by
  intro pins s σ H x y v u Q I rx ry ⟨g, S, a, b, hS, r1, r2, p⟩
  unfold vEq at p
  split at p
  · rename_i d e h1 h2
    split at p
    · rename_i hc
      exact op_eqD hu pins s σ H x y v u Q I rx ry ⟨d, e, hS.data r1 h1, hS.data r2 h2, hc.1, hc.2, p.now hS rfl⟩
    · exact p.elim
  · exact p.elim
theorem op_ne' (hu : X.A.units + 64 < cLine) : Op2 X (compareOp .NotEq) vNe := by
  intro pins s σ H x y v u Q I rx ry ⟨g, S, a, b, hS, r1, r2, p⟩
  unfold vNe at p
  split at p
  · rename_i d e h1 h2
    split at p
    · rename_i hc
      exact op_neD hu pins s σ H x y v u Q I rx ry ⟨d, e, hS.data r1 h1, hS.data r2 h2, hc.1, hc.2, p.now hS rfl⟩
    · exact p.elim
  · exact p.elim
theorem op_lt' : Op2 X (compareOp .Lt) vLt := by
  intro pins s σ H x y v u Q I rx ry ⟨g, S, a, b, hS, r1, r2, p⟩
  cases a <;> cases b <;> try exact p.elim
  rename_i i j
  exact op_lt pins s σ H x y v u Q I rx ry ⟨i, j, r1, r2, p.now hS rfl⟩
theorem op_gt' : Op2 X (compareOp .Gt) vGt := by
  intro pins s σ H x y v u Q I rx ry ⟨g, S, a, b, hS, r1, r2, p⟩
  cases a <;> cases b <;> try exact p.elim
  rename_i i j
  exact op_gt pins s σ H x y v u Q I rx ry ⟨i, j, r1, r2, p.now hS rfl⟩
theorem op_ge' : Op2 X (compareOp .GtE) vGe := by
  intro pins s σ H x y v u Q I rx ry ⟨g, S, a, b, hS, r1, r2, p⟩
  cases a <;> cases b <;> try exact p.elim
  rename_i i j
  exact op_ge pins s σ H x y v u Q I rx ry ⟨i, j, r1, r2, p.now hS rfl⟩
end
def vItem : V2 := fun a b S => match b with
  | .int i => match a with
    | .str z => if z.length ≤ sizeLine then (atI z.cps.toList i).map fun c => (.str ⟨#[c]⟩, S) else none
    | a => match seqOf S a with
      | some xs => (atI xs i).map fun x => (x, S)
      | none => none
  | _ => none
theorem RepVs.at_ {K : PySem.W.Frag} {g : Gh} {xs : List PV} {vs : List V} (h : RepVs K g xs vs) {i : Int} {x : PV} (e : atI xs i = some x) : ∃ v, atI vs i = some v ∧ RepV K g x v := by
  unfold atI at e ⊢
  rw [← h.length]
  cases q : ixN xs.length i with
  | none => rw [q] at e; cases e
  | some j =>
    rw [q] at e
    exact h.get e
section
variable {X : Cx}
theorem ix_item : Ix2 X vItem := by
  intro value slice pins s σ H x y v u Q I rx ry ⟨g, S, a, b, hS, r1, r2, p⟩ hs
  cases b with
  | int i =>
    have other : ∀ xs, seqOf S a = some xs → PostO X g (RepV X.K) ((atI xs i).map fun x => (x, S)) Q → wpAny (model X.prog X.w) X.A (subscriptTail value slice v u) (EP X pins σ Q) X.xe s := fun xs h1 p => by
      obtain ⟨q, vs, e1, hq, rr⟩ := hS.seq r1 h1
      cases h2 : atI xs i with
      | none => rw [h2] at p; exact p.elim
      | some z =>
        rw [h2] at p
        obtain ⟨w, h3, r3⟩ := rr.at_ h2
        rcases hq with hq | hq
        · exact ix_list value slice pins s σ H x y v u Q I rx ry ⟨q, vs, i, w, e1, r2, hq, h3, p.now hS r3⟩ hs
        · exact ix_tup value slice pins s σ H x y v u Q I rx ry ⟨q, vs, i, w, e1, r2, hq, h3, p.now hS r3⟩ hs
    unfold vItem at p
    simp only at p
    split at p
    · rename_i z
      split at p
      · rename_i hz
        cases h2 : atI z.cps.toList i with
        | none => rw [h2] at p; exact p.elim
        | some c =>
          rw [h2] at p
          exact ix_str value slice pins s σ H x y v u Q I rx ry ⟨z, i, c, r1, r2, hz, h2, p.now hS rfl⟩ hs
      · exact p.elim
    · split at p
      · rename_i xs h1
        exact other xs h1 p
      · exact p.elim
  | _ => exact p.elim
def cutP (xs : List PV) (lo hi : Option Int) : List PV := (xs.drop (HT.sIx xs.length 0 lo)).take (HT.sIx xs.length xs.length hi - HT.sIx xs.length 0 lo)
def vSl : VS := fun a lo hi S => match a with
  | .str z => if z.length ≤ sizeLine then some (.str (cutS z lo hi), S) else none
  | .tup xs => some (.tup (cutP xs lo hi), S)
  | a => match listOf S a with
    | some xs => some (.lst (cutP xs lo hi), S)
    | none => none
theorem cut_whole {xs : List PV} {lo hi : Option Int} (h : HT.sIx xs.length 0 lo = 0 ∧ HT.sIx xs.length xs.length hi = xs.length) : cutP xs lo hi = xs := by
  unfold cutP
  rw [h.1, h.2]
  simp
theorem sl_any : SlR X (rVS X vSl) := by
  intro pins s σ H x v vl vu lo hi sl Q I rx hs pl pu ⟨g, S, a, hS, r1, p⟩
  unfold vSl at p
  split at p
  · rename_i z
    split at p
    · rename_i hz
      exact sl_str pins s σ H x v vl vu lo hi sl Q I rx hs pl pu ⟨z, r1, hz, p.now hS rfl⟩
    · exact p.elim
  · rename_i xs
    obtain ⟨l, vs, q1, q2, q3⟩ := id r1
    refine sl_tupF pins s σ H x v vl vu lo hi sl Q I rx hs pl pu ⟨l, vs, q1, TpQ.t hS.fz q2, fun hw => ?_, p.tup hS (q3.cut lo hi)⟩
    rw [← q3.length] at hw
    rw [cut_whole hw] at p
    exact p.now hS ⟨l, vs, rfl, q2, q3⟩
  · split at p
    · rename_i xs e1
      obtain ⟨l, vs, q1, q2, q3⟩ := hS.list r1 e1
      exact sl_list pins s σ H x v vl vu lo hi sl Q I rx hs pl pu ⟨l, vs, q1, q2.sq, p.lst hS (q3.cut lo hi)⟩
    · exact p.elim
end
def vLen : VN := fun as S => match as with
  | [.str z] => if z.length ≤ sizeLine then some (.int z.length, S) else none
  | [a] => (seqOf S a).map fun xs => (.int xs.length, S)
  | _ => none
def vTuple : VN := fun as S => match as with
  | [.tup xs] => some (.tup xs, S)
  | [a] => (listOf S a).map fun xs => (.tup xs, S)
  | _ => none
def blsOf : List PV → Option (List Bool)
  | [] => some []
  | .bl b :: xs => (blsOf xs).map (b :: ·)
  | _ => none
def vAll : VN := fun as S => match as with
  | [a] => (listOf S a).bind fun xs => (blsOf xs).map fun bs => (.bl (bs.all id), S)
  | _ => none
def vMax2 : VN := fun as S => match as with
  | [.int i, .int j] => some (.int (if j > i then j else i), S)
  | _ => none
def vMin2 : VN := fun as S => match as with
  | [.int i, .int j] => some (.int (if j < i then j else i), S)
  | _ => none
def vInt : VN := fun as S => match as with
  | [.int i] => some (.int i, S)
  | [.bl k] => some (.int (if k then 1 else 0), S)
  | _ => none
section
variable {K : PySem.W.Frag} {g : Gh}
end
section
variable {X : Cx}
theorem RepVs.one {K : PySem.W.Frag} {g : Gh} {a : PV} {vs : List V} (r : RepVs K g [a] vs) : ∃ x, vs = [x] ∧ RepV K g a x := by
  obtain ⟨x, r', e, r1, r2⟩ := r
  cases (show r' = [] from r2)
  exact ⟨x, e, r1⟩
theorem RepVs.two {K : PySem.W.Frag} {g : Gh} {a b : PV} {vs : List V} (r : RepVs K g [a, b] vs) : ∃ x y, vs = [x, y] ∧ RepV K g a x ∧ RepV K g b y := by
  obtain ⟨x, r', e, r1, r2⟩ := r
  obtain ⟨y, e2, r3⟩ := RepVs.one r2
  subst e2
  exact ⟨x, y, e, r1, r3⟩
theorem cl_len : CallN X (.builtin "len") vLen := by
  intro pins s σ H xs us Q I r ⟨g, S, as, hS, rr, p⟩
  unfold vLen at p
  split at p
  · rename_i z
    obtain ⟨x, rfl, r1⟩ := rr.one
    split at p
    · rename_i hz
      exact call_len_str pins s σ H _ us Q I r ⟨z, by rw [(show x = V.str z from r1)], hz, p.now hS rfl⟩
    · exact p.elim
  · rename_i a _
    obtain ⟨x, rfl, r1⟩ := rr.one
    cases h : seqOf S a with
    | none => rw [h] at p; exact p.elim
    | some ys =>
      rw [h] at p
      obtain ⟨l, vs, q1, q2, q3⟩ := hS.seq r1 h
      subst q1
      exact call_len_seq pins s σ H _ us Q I r ⟨l, vs, rfl, q2, by rw [← q3.length]; exact p.now hS rfl⟩
  · exact p.elim
theorem cl_min2 (hc : X.calm = true) : CallN X (.builtin "min") vMin2 := by
  intro pins s σ H xs us Q I r ⟨g, S, as, hS, rr, p⟩
  unfold vMin2 at p
  split at p
  · rename_i i j
    obtain ⟨x, y, rfl, r1, r2⟩ := rr.two
    exact call_min2 hc pins s σ H _ us Q I r ⟨i, j, by rw [(show x = V.int i from r1), (show y = V.int j from r2)], p.now hS rfl⟩
  · exact p.elim
theorem cl_int : CallN X (.type "int") vInt := by
  intro pins s σ H xs us Q I r ⟨g, S, as, hS, rr, p⟩
  unfold vInt at p
  split at p
  · rename_i i
    obtain ⟨x, rfl, r1⟩ := rr.one
    exact call_int1 pins s σ H _ us Q I r (.inl ⟨i, by rw [(show x = V.int i from r1)], p.now hS rfl⟩)
  · rename_i i
    obtain ⟨x, rfl, r1⟩ := rr.one
    exact call_int1 pins s σ H _ us Q I r (.inr ⟨i, by rw [(show x = V.bl i from r1)], p.now hS rfl⟩)
  · exact p.elim
def tyName (S : Sto) : PV → Option String
  | .non => some "NoneType"
  | .bl _ => some "bool"
  | .int _ => some "int"
  | .str _ => some "str"
  | .tup _ => some "tuple"
  | .lst _ => some "list"
  | .ref n => match S[n]? with
    | some (.lst _) => some "list"
    | some (.dct _) => some "dict"
    | _ => none
  | .adr _ _ _ => none
  | .dic _ _ => some "dict"
def vIsInst (T : String) : V1 := fun a S => (tyName S a).bind fun t => (L2.kitB t T).map fun b => (.bl b, S)
end
end MX
end
section
namespace MX
open PySem PySem.Spec PyProof.Rows L2
/-- items that stand, or a list of the store as it stands at each turn (in pairs with its places) -/
inductive Src where
  | items (xs : List PV) | live (n : Nat) | liveE (n : Nat)
def enumP : Nat → List PV → List PV
  | _, [] => []
  | i, x :: xs => .tup [.int i, x] :: enumP (i + 1) xs
theorem enumP_get : ∀ (i : Nat) (xs : List PV) (k : Nat), (enumP i xs)[k]? = (xs[k]?).map fun x => PV.tup [.int ((i + k : Nat) : Int), x]
  | _, [], _ => by simp [enumP]
  | i, x :: xs, 0 => by simp [enumP]
  | i, x :: xs, k + 1 => by
    simp only [enumP, List.getElem?_cons_succ]
    rw [enumP_get (i + 1) xs k]
    have : i + 1 + k = i + (k + 1) := by omega
    rw [this]
theorem enumP_length : ∀ (i : Nat) (xs : List PV), (enumP i xs).length = xs.length
  | _, [] => rfl
  | i, x :: xs => by simp [enumP, enumP_length (i + 1) xs]
def srcGet : Src → Sto → Option (List PV)
  | .items xs, _ => some xs
  | .live n, S => listOf S (.ref n)
  | .liveE n, S => (listOf S (.ref n)).map (enumP 0)
abbrev Si := Sl → Sto → Out Src
/-- J walks the source -/
def JOk (X : Cx) (g : Gh) (src : Src) (J : It) : Prop := ∀ (i : Nat) (H : Hp) (g' : Gh) (S : Sto) (xs : List PV), g.lv g' → RepS X.K X.mp g' S H → srcGet src S = some xs →
  (xs.length ≤ i → J.stop i H) ∧ ∀ x, xs[i]? = some x → J.go i H ∧ ∀ v H', J.yld i H v H' → ∃ g2, g'.le g2 ∧ RepS X.K X.mp g2 S H' ∧ RepV X.K g2 x v
def rdI (X : Cx) (t : Si) : TI := fun σ H R => ∃ g sp S, RepS X.K X.mp g S H ∧ RepE X.K g sp σ ∧ Post X g (JOk X) (ExcT X g sp) (t sp S) R
theorem _root_.L2.PI.imp {X : Cx} {tg e : Expr} {t t' : TI} (h : PI X tg e t) (i : ∀ σ H R, t' σ H R → t σ H R) : PI X tg e t' := ⟨fun pins s σ H R I q => h.run pins s σ H R I (i _ _ _ q)⟩
theorem _root_.L2.PI.or {X : Cx} {tg e : Expr} {t t' : TI} (h : PI X tg e t) (h' : PI X tg e t') : PI X tg e (fun σ H R => t σ H R ∨ t' σ H R) := ⟨fun pins s σ H R I q => by
  rcases q with q | q
  · exact h.run pins s σ H R I q
  · exact h'.run pins s σ H R I q⟩
section
variable {X : Cx} {tg e : Expr} {te : Sx} {pos : Pos}
theorem JOk.lst {g : Gh} {a : Addr} {src : Src} (h : ∀ (g' : Gh) (S : Sto) (H : Hp) (xs : List PV), g.lv g' → RepS X.K X.mp g' S H → srcGet src S = some xs → ∃ vs, SqL X.K H a vs ∧ RepVs X.K g' xs vs) : JOk X g src (Itl X.K a) := fun i H g' S xs l hS e => by
  obtain ⟨vs, q1, q2⟩ := h g' S H xs l hS e
  refine ⟨fun hi => ⟨vs, q1, by rw [← q2.length]; exact hi⟩, fun x hx => ?_⟩
  obtain ⟨v, e1, r⟩ := q2.get hx
  refine ⟨⟨vs, v, q1, e1⟩, fun u H' ⟨e2, k⟩ => ?_⟩
  subst e2
  have := k vs q1
  rw [e1] at this; cases this
  exact ⟨g', .refl _, hS, r⟩
theorem JOk.tup {g : Gh} {a : Addr} {xs : List PV} {vs : List V} (h : TpQ X.K g.fz a vs) (r : RepVs X.K g xs vs) : JOk X g (.items xs) (Itt X.K a) := fun i H g' S ys l hS e => by
  cases e
  have q1 : SqT X.K H a vs := TpQ.t (fun b o z => hS.fz b o (l.fz b o z)) h
  refine ⟨fun hi => ⟨vs, q1, by rw [← r.length]; exact hi⟩, fun x hx => ?_⟩
  obtain ⟨v, e1, r1⟩ := r.get hx
  refine ⟨⟨vs, v, q1, e1⟩, fun u H' ⟨e2, k⟩ => ?_⟩
  subst e2
  have := k vs q1
  rw [e1] at this; cases this
  exact ⟨g', .refl _, hS, RepV.monoV l _ _ r1⟩
def charsOf (z : Str) : List PV := z.cps.toList.map fun c => .str ⟨#[c]⟩
theorem JOk.str {g : Gh} {z : Str} : JOk X g (.items (charsOf z)) (Its z) := fun i H g' S ys l hS e => by
  cases e
  refine ⟨fun hi => (by have z2 := hi; simp [charsOf] at z2; exact z2), fun x hx => ?_⟩
  unfold charsOf at hx
  rw [List.getElem?_map] at hx
  cases q : z.cps.toList[i]? with
  | none => rw [q] at hx; cases hx
  | some c =>
    rw [q] at hx; cases hx
    have hi : i < z.cps.size := by simpa using (List.getElem?_eq_some_iff.mp q).1
    refine ⟨hi, fun u H' ⟨e2, c', e3, e4⟩ => ?_⟩
    subst e2 e4
    have : z.cps[i]? = some c := by simpa using q
    rw [this] at e3; cases e3
    exact ⟨g', .refl _, hS, rfl⟩
theorem JOk.rng {g : Gh} {lo : Int} {n : Nat} : JOk X g (.items ((List.range n).map fun i => .int (lo + (i : Nat)))) (Itr lo n) := fun i H g' S ys l hS e => by
  cases e
  refine ⟨fun hi => (by have z2 := hi; simp at z2; exact z2), fun x hx => ?_⟩
  rw [List.getElem?_map] at hx
  have hi : i < n := by
    have := (List.getElem?_eq_some_iff.mp (Option.map_eq_some_iff.mp hx).choose_spec.1).1
    simpa using this
  rw [List.getElem?_range hi] at hx
  cases hx
  exact ⟨hi, fun u H' ⟨e2, e3⟩ => by subst e2 e3; exact ⟨g', .refl _, hS, rfl⟩⟩
/-- a list, a tuple, a text -/
def srcOf (v : PV) (S1 : Sto) : Out Src := match v with
  | .tup xs => .ok (.items xs) S1
  | .lst xs => .ok (.items xs) S1
  | .str z => .ok (.items (charsOf z)) S1
  | .ref n => match listOf S1 (.ref n) with
    | some _ => .ok (.live n) S1
    | none => .stuck
  | _ => .stuck
def siSeq (te : Sx) : Si := fun sp S => (te sp S).bind srcOf
theorem si_seq (he : PE X e (rdE X te)) : PI X tg e (rdI X (siSeq te)) := by
  refine (((pi_list he).or (pi_tup he)).or (pi_str he)).imp fun σ H R ⟨g, sp, S, hS, hE, p⟩ => ?_
  have key := rdE.fst (ta := te) hS hE p
  cases h : te sp S with
  | exc x S1 =>
    refine .inl (.inl ⟨g, sp, S, hS, hE, ?_⟩)
    unfold siSeq at p
    rw [h] at p ⊢
    exact p
  | stuck =>
    unfold siSeq at p
    rw [h] at p
    exact p.elim
  | ok v S1 =>
    have go : ∀ (Q : VK), (∀ x H1, (∃ g1, g.le g1 ∧ RepS X.K X.mp g1 S1 H1 ∧ RepE X.K g1 sp σ ∧ RepV X.K g1 v x ∧ Post X g1 (JOk X) (ExcT X g1 sp) (srcOf v S1) R) → Q x H1) → rdE X te σ H Q := fun Q hQ => by
      refine ⟨g, sp, S, hS, hE, ?_⟩
      rw [h]
      intro x H1 g1 l1 q1 r1
      refine hQ x H1 ⟨g1, l1, q1, hE.mono l1, r1, ?_⟩
      unfold siSeq at p
      rw [h] at p
      exact (Post.imp (show Post X g (JOk X) (ExcT X g sp) (srcOf v S1) R from p) (fun x S' t => t.mono l1) fun _ _ q => q).le l1
    cases v with
    | tup xs =>
      refine .inl (.inr (go _ fun x H1 ⟨g1, l1, q1, e1, ⟨a, vs, ex, k1, k2⟩, p1⟩ => ⟨a, ex, ⟨vs, TpQ.t q1.fz k1⟩, p1 _ H1 g1 (.refl _) q1 (JOk.tup k1 k2)⟩))
    | lst xs =>
      refine .inl (.inl (go _ fun x H1 ⟨g1, l1, q1, e1, ⟨a, vs, ex, k1, k2⟩, p1⟩ => ⟨a, ex, ⟨vs, (LsQ.mono q1.fz k1).sq⟩, p1 _ H1 g1 (.refl _) q1 (JOk.lst fun g' S' H' ys l hS' e' => ?_)⟩))
      cases e'
      exact ⟨vs, (LsQ.mono (fun b o z => hS'.fz b o (l.fz b o z)) k1).sq, RepVs.monoV l _ _ k2⟩
    | str z =>
      exact .inr (go _ fun x H1 ⟨g1, l1, q1, e1, r1, p1⟩ => ⟨z, r1, p1 _ H1 g1 (.refl _) q1 JOk.str⟩)
    | ref n =>
      refine .inl (.inl (go _ fun x H1 ⟨g1, l1, q1, e1, r1, p1⟩ => ?_))
      obtain ⟨a, ex, em⟩ := id r1
      unfold srcOf at p1
      cases h2 : listOf S1 (.ref n) with
      | none => simp only [h2] at p1; exact p1.elim
      | some xs =>
        simp only [h2] at p1
        obtain ⟨a', vs, ex', k1, k2⟩ := q1.list r1 h2
        rw [ex] at ex'; cases ex'
        refine ⟨a, ex, ⟨vs, k1.sq⟩, p1 _ H1 g1 (.refl _) q1 (JOk.lst fun g' S' H' ys l hS' e' => ?_)⟩
        obtain ⟨a2, ws, ex2, k3, k4⟩ := hS'.list (RepV.monoV l _ _ r1) e'
        rw [ex] at ex2; cases ex2
        exact ⟨ws, k3.sq, k4⟩
    | _ =>
      unfold siSeq at p
      rw [h] at p
      exact p.elim
/-- range -/
def rngP (lo : Int) (n : Nat) : List PV := (List.range n).map fun i => .int (lo + (i : Nat))
/-- a bound that the kernel need not count out -/
def RngOk (j : Int) : Prop := Nat.ble j.natAbs 1000000000000 = true
instance (j : Int) : Decidable (RngOk j) := by unfold RngOk; infer_instance
theorem RngOk.h {j : Int} (q : RngOk j) : -(2 ^ 62) ≤ j ∧ j < 2 ^ 62 := by
  have h : j.natAbs ≤ 1000000000000 := Nat.le_of_ble_eq_true q
  omega
def siRange1 (ta : Sx) : Si := fun sp S => (ta sp S).bind fun v S1 => match v with
  | .int j => if RngOk j then .ok (.items (rngP 0 j.toNat)) S1 else .stuck
  | _ => .stuck
def siRange2 (ta tb : Sx) : Si := fun sp S => (ta sp S).bind fun v S1 => (tb sp S1).bind fun w S2 => match v, w with
  | .int i, .int j => if RngOk i ∧ RngOk j then .ok (.items (rngP i (j - i).toNat)) S2 else .stuck
  | _, _ => .stuck
variable {a b : Expr} {ta tb : Sx} {p : Pos}
theorem si_range1 (hg : Gl X "range") (hm : X.mg "range" = none) (ha : PE X a (rdE X ta)) (hs : starEach [a] X.env = [(false, eval a X.env)] := by rfl) : PI X tg (.Call (.Name "range" p) [a] [] pos) (rdI X (siRange1 ta)) :=
  (pi_range1 hg hm (pa_cons ha pa_nil (by rw [hs]; rfl)) hs).imp fun σ H R ⟨g, sp, S, hS, hE, p⟩ => by
    refine (rdE.fst hS hE p).mono fun x H1 ⟨v, g1, S1, l1, q1, e1, r1, p1⟩ => ?_
    cases v with
    | int j =>
      simp only at p1
      split at p1
      · rename_i hj
        refine ⟨j, by rw [(show x = V.int j from r1)], hj.h.1, hj.h.2, p1 _ H1 g1 (.refl _) q1 ?_⟩
        exact JOk.rng
      · exact p1.elim
    | _ => exact p1.elim
end
def forG (get : Sto → Option (List PV)) (t : Sg) (b : Ss) : Nat → Nat → Sl → Sto → SOut
  | 0, i, sp, S => match get S with
    | none => .stuck
    | some xs => match xs[i]? with
      | none => .nx sp S
      | some _ => .stuck
  | f + 1, i, sp, S => match get S with
    | none => .stuck
    | some xs => match xs[i]? with
      | none => .nx sp S
      | some x => match t x sp S with
        | none => .stuck
        | some sp1 => match b sp1 S with
          | .nx sp2 S2 => forG get t b f (i + 1) sp2 S2
          | .ct sp2 S2 => forG get t b f (i + 1) sp2 S2
          | .bk sp2 S2 => .nx sp2 S2
          | .rt v S2 => .rt v S2
          | .exc x sp2 S2 => .exc x sp2 S2
          | .stuck => .stuck
/-- over items that stand -/
def forL (t : Sg) (b : Ss) : List PV → Sl → Sto → SOut
  | [], sp, S => .nx sp S
  | x :: xs, sp, S => match t x sp S with
    | none => .stuck
    | some sp1 => match b sp1 S with
      | .nx sp2 S2 => forL t b xs sp2 S2
      | .ct sp2 S2 => forL t b xs sp2 S2
      | .bk sp2 S2 => .nx sp2 S2
      | .rt v S2 => .rt v S2
      | .exc x sp2 S2 => .exc x sp2 S2
      | .stuck => .stuck
theorem forG_items (t : Sg) (b : Ss) : ∀ (ys pre : List PV) (sp : Sl) (S : Sto), forG (srcGet (.items (pre ++ ys))) t b ys.length pre.length sp S = forL t b ys sp S
  | [], pre, sp, S => by simp [forG, srcGet, forL]
  | y :: ys, pre, sp, S => by
    have h : (pre ++ y :: ys)[pre.length]? = some y := by simp
    have ih := fun sp2 S2 => forG_items t b ys (pre ++ [y]) sp2 S2
    have e : pre ++ [y] ++ ys = pre ++ y :: ys := by simp
    rw [e] at ih
    simp only [List.length_append, List.length_singleton] at ih
    show forG _ t b (ys.length + 1) pre.length sp S = _
    simp only [forG, srcGet, h, forL]
    cases t y sp S with
    | none => rfl
    | some sp1 =>
      simp only
      cases b sp1 S with
      | nx sp2 S2 => exact ih sp2 S2
      | ct sp2 S2 => exact ih sp2 S2
      | _ => rfl
def ssFor (ti : Si) (t : Sg) (b : Ss) : Ss := fun sp S => bindS (ti sp S) sp fun src S1 => match src with
  | .items xs => forL t b xs sp S1
  | src => match srcGet src S1 with
    | none => .stuck
    | some xs => forG (srcGet src) t b xs.length 0 sp S1
theorem ssFor_eq (ti : Si) (t : Sg) (b : Ss) (sp : Sl) (S : Sto) : ssFor ti t b sp S = bindS (ti sp S) sp fun src S1 => match srcGet src S1 with
    | none => .stuck
    | some xs => forG (srcGet src) t b xs.length 0 sp S1 := by
  unfold ssFor bindS
  cases ti sp S with
  | ok src S1 =>
    cases src with
    | items xs => exact (forG_items t b xs [] sp S1).symm
    | _ => rfl
  | _ => rfl
section
variable {X : Cx} {tg iter : Expr} {body : List Stmt} {ti : Si} {t : Sg} {b : Ss} {is : List Nat} {pos : Pos}
theorem ss_for (hp : PassesOwn (model X.prog X.w) X.A X.env X.xe) (hc : X.calm = true) (hi : PI X tg iter (rdI X ti)) (hg : PG X tg (rdG X is t)) (hb : PSs X body (rdS X b)) (hs : ∀ x, foldedSetIterable iter X.env x = pure x := by intro _; rfl) :
    PS X (.For tg iter body [] pos) (rdS X (ssFor ti t b)) := by
  refine (ps_for hp hc hi hg hb hs).imp fun D σ H ⟨g, sp, S, hS, hE, p⟩ => ?_
  rw [ssFor_eq] at p
  refine ⟨g, sp, S, hS, hE, (PostS.seq (R := JOk X) p).imp (fun _ _ x => x) fun J H1 ⟨src, g1, S1, l1, q1, jo, p1⟩ => ?_⟩
  refine ⟨fun i m σ H => ∃ g2 sp2 S2 f, g1.le g2 ∧ RepS X.K X.mp g2 S2 H ∧ RepE X.K g2 sp2 σ ∧ m = f ∧ PostS X g2 (forG (srcGet src) t b f i sp2 S2) D, ?_, ?_⟩
  · cases h : srcGet src S1 with
    | none => rw [h] at p1; exact p1.elim
    | some xs => rw [h] at p1; exact ⟨xs.length, g1, sp, S1, xs.length, .refl _, q1, hE.mono l1, rfl, p1⟩
  · rintro i m σ2 H2 ⟨g2, sp2, S2, f, l2, q2, e2, rfl, p2⟩
    cases h : srcGet src S2 with
    | none =>
      cases m <;> (simp only [forG, h] at p2; exact p2.elim)
    | some xs =>
      obtain ⟨jst, jgo⟩ := jo i H2 g2 S2 xs l2.lv q2 h
      cases hx : xs[i]? with
      | none =>
        refine .inl ⟨jst (List.getElem?_eq_none_iff.mp hx), ?_⟩
        cases m <;> (simp only [forG, h, hx] at p2; exact p2 σ2 H2 g2 (.refl _) q2 e2)
      | some x =>
        cases m with
        | zero => simp only [forG, h, hx] at p2; exact p2.elim
        | succ m =>
          simp only [forG, h, hx] at p2
          obtain ⟨go, yl⟩ := jgo x hx
          refine .inr ⟨go, fun σ' H' => ∃ g3 sp3 S3, g1.le g3 ∧ RepS X.K X.mp g3 S3 H' ∧ RepE X.K g3 sp3 σ' ∧ PostS X g3 (forG (srcGet src) t b m (i + 1) sp3 S3) D, fun σ' H' ⟨g3, sp3, S3, l3, q3, e3, p3⟩ => ⟨m, Nat.lt_succ_self _, g3, sp3, S3, m, l3, q3, e3, rfl, p3⟩, fun v H' y => ?_⟩
          obtain ⟨g3, l3, q3, r3⟩ := yl v H' y
          cases ht : t x sp2 S2 with
          | none => simp only [ht] at p2; exact p2.elim
          | some sp1 =>
            simp only [ht] at p2
            refine ⟨g3, sp2, S2, x, sp1, q3, e2.mono l3, r3, ht, fun σ4 g4 l4 q4 e4 _ => ⟨g4, sp1, S2, q4, e4, ?_⟩⟩
            have l24 := l3.trans l4
            cases hbo : b sp1 S2 with
            | nx sp5 S5 =>
              simp only [hbo] at p2
              exact fun σ5 H5 g5 l5 q5 e5 => ⟨g5, sp5, S5, (l2.trans l24).trans l5, q5, e5, p2.le (l24.trans l5)⟩
            | ct sp5 S5 =>
              simp only [hbo] at p2
              exact fun σ5 H5 g5 l5 q5 e5 => ⟨g5, sp5, S5, (l2.trans l24).trans l5, q5, e5, p2.le (l24.trans l5)⟩
            | bk sp5 S5 =>
              simp only [hbo] at p2
              exact fun σ5 H5 g5 l5 q5 e5 => p2 σ5 H5 g5 (l24.trans l5) q5 e5
            | rt w S5 =>
              simp only [hbo] at p2
              exact fun v5 H5 g5 l5 q5 r5 => p2 v5 H5 g5 (l24.trans l5) q5 r5
            | exc z sp5 S5 =>
              simp only [hbo] at p2
              exact ExcT.mono p2 l24
            | stuck => simp only [hbo] at p2; exact (show False from p2).elim
end
def whileN (c : St') (b : Ss) : Nat → Sl → Sto → SOut
  | 0, _, _ => .stuck
  | f + 1, sp, S => bindS (c sp S) sp fun k S1 => if k = true then (match b sp S1 with
      | .nx sp2 S2 => whileN c b f sp2 S2
      | .ct sp2 S2 => whileN c b f sp2 S2
      | .bk sp2 S2 => .nx sp2 S2
      | .rt v S2 => .rt v S2
      | .exc x sp2 S2 => .exc x sp2 S2
      | .stuck => .stuck) else .nx sp S1
def ssWhile (f : Nat) (c : St') (b : Ss) : Ss := fun sp S => whileN c b f sp S
section
variable {X : Cx} {c : Expr} {body : List Stmt} {tc : St'} {b : Ss} {pos : Pos}
end
/-- a reading that lets no exception out, the same in every block -/
def rdE0 (X : Cx) (t : Sx) : TE := fun σ H Q => ∃ g sp S, RepS X.K X.mp g S H ∧ RepE X.K g sp σ ∧ Post X g (RepV X.K) (fun _ _ => False) (t sp S) Q
def rdT0 (X : Cx) (t : St') : TT := fun σ H Q => ∃ g sp S, RepS X.K X.mp g S H ∧ RepE X.K g sp σ ∧ Post X g (fun _ a b => a = b) (fun _ _ => False) (t sp S) Q
theorem pe_0 {X : Cx} {e : Expr} {t : Sx} (h : PE X e (rdE X t)) : PE X e (rdE0 X t) := h.imp fun σ H Q ⟨g, sp, S, hS, hE, p⟩ => ⟨g, sp, S, hS, hE, p.imp (fun _ _ z => z.elim) fun _ _ q => q⟩
theorem pt_0 {X : Cx} {e : Expr} {t : St'} (h : PT X e (rdT X t)) : PT X e (rdT0 X t) := h.imp fun σ H Q ⟨g, sp, S, hS, hE, p⟩ => ⟨g, sp, S, hS, hE, p.imp (fun _ _ z => z.elim) fun _ _ q => q⟩
@[reducible] def Out.pure {α β : Type} (o : Out α) (f : α → Sto → Out β) : Out β := match o with
  | .ok a S => f a S
  | _ => .stuck
def stYes : St' := fun _ S => .ok true S
def wipeP (sp : Sl) : List Nat → Sl
  | [] => sp
  | v :: vs => (wipeP sp vs).set v none
def lcG (get : Sto → Option (List PV)) (sp : Sl) (t : Sg) (c : St') (te : Sx) : Nat → Nat → Sto → Out (List PV)
  | 0, i, S => match get S with
    | none => .stuck
    | some xs => match xs[i]? with
      | none => .ok [] S
      | some _ => .stuck
  | f + 1, i, S => match get S with
    | none => .stuck
    | some xs => match xs[i]? with
      | none => .ok [] S
      | some x => match t x sp S with
        | none => .stuck
        | some sp1 => (c sp1 S).pure fun k S1 => if k = true then (te sp1 S1).pure fun y S2 => (lcG get sp t c te f (i + 1) S2).pure fun ys S3 => .ok (y :: ys) S3
          else lcG get sp t c te f (i + 1) S1
def lcL (sp : Sl) (t : Sg) (c : St') (te : Sx) : List PV → Sto → Out (List PV)
  | [], S => .ok [] S
  | x :: xs, S => match t x sp S with
    | none => .stuck
    | some sp1 => (c sp1 S).pure fun k S1 => if k = true then (te sp1 S1).pure fun y S2 => (lcL sp t c te xs S2).pure fun ys S3 => .ok (y :: ys) S3
      else lcL sp t c te xs S1
theorem lcG_items (sp : Sl) (t : Sg) (c : St') (te : Sx) : ∀ (ys pre : List PV) (S : Sto), lcG (srcGet (.items (pre ++ ys))) sp t c te ys.length pre.length S = lcL sp t c te ys S
  | [], pre, S => by simp [lcG, srcGet, lcL]
  | y :: ys, pre, S => by
    have h : (pre ++ y :: ys)[pre.length]? = some y := by simp
    have ih := fun S2 => lcG_items sp t c te ys (pre ++ [y]) S2
    have e : pre ++ [y] ++ ys = pre ++ y :: ys := by simp
    rw [e] at ih
    simp only [List.length_append, List.length_singleton] at ih
    show lcG _ sp t c te (ys.length + 1) pre.length S = _
    simp only [lcG, srcGet, h, lcL]
    cases t y sp S with
    | none => rfl
    | some sp1 =>
      simp only
      cases c sp1 S with
      | ok k S1 =>
        simp only [Out.pure]
        cases k with
        | true =>
          simp only [if_true]
          cases te sp1 S1 with
          | ok v S2 => simp only; rw [ih]
          | _ => rfl
        | false =>
          simp only [Bool.false_eq_true, if_false]
          exact ih S1
      | _ => rfl
def lcRun (src : Src) (sp : Sl) (t : Sg) (c : St') (te : Sx) (S : Sto) : Out (List PV) := match src with
  | .items xs => lcL sp t c te xs S
  | src => match srcGet src S with
    | none => .stuck
    | some xs => lcG (srcGet src) sp t c te xs.length 0 S
theorem lcRun_eq (src : Src) (sp : Sl) (t : Sg) (c : St') (te : Sx) (S : Sto) : lcRun src sp t c te S = match srcGet src S with
    | none => .stuck
    | some xs => lcG (srcGet src) sp t c te xs.length 0 S := by
  cases src with
  | items xs => exact (lcG_items sp t c te xs [] S).symm
  | _ => rfl
/-- the list made, then frozen, or laid in the store -/
def fzL : VN := fun ys S => if ys.length ≤ sizeLine then some (.lst ys, S) else none
def nwL : VN := fun ys S => if ys.length ≤ sizeLine then some (.ref S.length, S ++ [.lst ys]) else none
def sxLc (fin : VN) (ti : Si) (vs : List Nat) (t : Sg) (c : St') (te : Sx) : Sx := fun sp S => (ti sp S).bind fun src S1 => (lcRun src (wipeP sp vs) t c te S1).pure fun ys S2 => .of (fin ys S2)
section
variable {K : PySem.W.Frag} {g : Gh}
theorem wipeP_length (sp : Sl) : ∀ vs : List Nat, (wipeP sp vs).length = sp.length
  | [] => rfl
  | v :: vs => by unfold wipeP; rw [List.length_set, wipeP_length sp vs]
theorem wipeP_some {sp : Sl} {i : Nat} {x : PV} : ∀ {vs : List Nat}, (wipeP sp vs)[i]? = some (some x) → sp[i]? = some (some x) ∧ i ∉ vs
  | [], h => ⟨h, by simp⟩
  | v :: vs, h => by
    unfold wipeP at h
    by_cases hi : v = i
    · subst hi
      by_cases hv : v < (wipeP sp vs).length
      · rw [List.getElem?_set_self hv] at h; cases h
      · rw [List.getElem?_eq_none (by simpa using hv)] at h; cases h
    · rw [List.getElem?_set_ne hi] at h
      obtain ⟨h1, h2⟩ := wipeP_some h
      exact ⟨h1, by simp only [List.mem_cons, not_or]; exact ⟨fun e => hi e.symm, h2⟩⟩
theorem RepE.wipe {sp : Sl} {σ : L2.St} (h : RepE K g sp σ) (vs : List Nat) : RepE K g (wipeP sp vs) (wipe σ vs) := by
  refine ⟨by rw [wipeP_length, wipe_length, h.len], fun i x e => ?_⟩
  obtain ⟨e1, hv⟩ := wipeP_some e
  obtain ⟨v, e2, r⟩ := h.get i x e1
  exact ⟨v, by rw [wipe_out hv]; exact e2, r⟩
theorem wipe_in {σ : L2.St} {i : Nat} (hi : i < σ.length) : ∀ {vs : List Nat}, i ∈ vs → (wipe σ vs)[i]? = some none
  | v :: vs, h => by
    unfold wipe
    by_cases e : v = i
    · subst e
      rw [List.getElem?_set_self (by rw [wipe_length]; exact hi)]
    · rw [List.getElem?_set_ne e]
      exact wipe_in hi (by simpa [Ne.symm e] using h)
theorem wipe_near {is vs : List Nat} {σ σ2 : L2.St} (n : Near is (wipe σ vs) σ2) (hv : ∀ i ∈ is, i ∈ vs) : wipe σ2 vs = wipe σ vs := by
  apply List.ext_getElem?
  intro i
  by_cases hl : i < σ.length
  · by_cases hi : i ∈ vs
    · rw [wipe_in hl hi, wipe_in (by rw [n.1, wipe_length]; exact hl) hi]
    · rw [wipe_out hi]
      exact n.2 i fun z => hi (hv i z)
  · rw [List.getElem?_eq_none (by rw [wipe_length, n.1, wipe_length]; omega), List.getElem?_eq_none (by rw [wipe_length]; omega)]
end
/-- what the end of a comprehension makes of the list -/
structure FinL (X : Cx) (fin : VN) : Prop where
  fit : ∀ ys S r, fin ys S = some r → ys.length ≤ sizeLine
  go : ∀ (g : Gh) (r0 : Hp) (S : Sto) (H : Hp) (ys : List PV) (vs : List V) (D : Addr) (Q : VK), RepS X.K X.mp g S H → g.rs D = some (.lst vs) → (∀ a u, r0 a = some u → a ≠ D ∧ g.rs a = some u) → RepVs X.K g ys vs →
    PostO X ⟨g.fz, g.m, r0, g.tb⟩ (RepV X.K) (fin ys S) Q → Q (.ref D) H
theorem fin_fz {X : Cx} : FinL X fzL := ⟨fun ys S r h => (by unfold fzL at h; split at h; assumption; cases h), fun g r0 S H ys vs D Q hS hD h0 r p => by
  unfold fzL at p
  split at p
  · obtain ⟨q1, q2⟩ := hS.letGo hD h0
    exact p (.ref D) H ⟨upd g.fz D (.lst vs), g.m, r0, g.tb⟩ ⟨q2.fz, q2.m, rfl, rfl⟩ q1 ⟨D, vs, rfl, .inl (.inl upd_same), RepVs.monoV q2 _ _ r⟩
  · exact p.elim⟩
section
variable {X : Cx} {elt tg iter : Expr} {ifs : List Expr} {scope : Scope} {own : List (Str × Nat)} {pos : Pos} {ti : Si} {t : Sg} {is : List Nat} {tc : St'} {te : Sx} {fin : VN}
theorem Out.pure_ok {α β : Type} {o : Out α} {f : α → Sto → Out β} {r : Out β} (h : o.pure f = r) (hr : r ≠ .stuck) : ∃ a S, o = .ok a S ∧ f a S = r := by
  cases o with
  | ok a S => exact ⟨a, S, rfl, h⟩
  | exc x S => exact absurd h.symm hr
  | stuck => exact absurd h.symm hr
/-- the reading of a comprehension -/
theorem rdLc (hf : FinL X fin) (hv : ∀ i ∈ is, i ∈ own.map (·.2)) {σ : L2.St} {H : Hp} {Q : VK} (h : rdE X (sxLc fin ti (own.map (·.2)) t tc te) σ H Q) : tLc (rdI X ti) (rdG X is t) (rdT0 X tc) (rdE0 X te) (own.map (·.2)) σ H Q := by
  obtain ⟨g, sp, S, hS, hE, p⟩ := h
  refine ⟨g, sp, S, hS, hE, (Post.seq (R := JOk X) p).imp (fun _ _ x => x) fun J H1 ⟨src, g1, S1, l1, q1, jo, p1⟩ => ?_⟩
  intro D hD
  rw [lcRun_eq] at p1
  obtain ⟨vs, hvs⟩ : ∃ vs : List Nat, vs = own.map (·.2) := ⟨_, rfl⟩
  rw [← hvs] at p1 hv ⊢
  have hE1 := (hE.mono l1).wipe vs
  -- the state in the loop: acc is made, ys are to come
  refine ⟨fun i m H => ∃ g2 S2 acc ws f, g1.lv g2 ∧ (∃ r, g2.rs = upd r D (.lst ws) ∧ r = g1.rs) ∧ g2.tb = g1.tb ∧ RepS X.K X.mp g2 S2 H ∧ RepVs X.K g2 acc ws ∧ m = f ∧ ∃ ys S3, lcG (srcGet src) (wipeP sp vs) t tc te f i S2 = .ok ys S3 ∧ PostO X g1 (RepV X.K) (fin (acc ++ ys) S3) Q ∧ (acc ++ ys).length ≤ sizeLine, ?_, ?_⟩
  · cases h : srcGet src S1 with
    | none => rw [h] at p1; exact p1.elim
    | some xs =>
      rw [h] at p1
      simp only at p1
      cases hl : lcG (srcGet src) (wipeP sp vs) t tc te xs.length 0 S1 with
      | exc x S' => rw [hl] at p1; exact p1.elim
      | stuck => rw [hl] at p1; exact p1.elim
      | ok ys S3 =>
        rw [hl] at p1
        have p2 : PostO X g1 (RepV X.K) (fin ys S3) Q := Post.of p1
        refine ⟨xs.length, { g1 with rs := upd g1.rs D (.lst []) }, S1, [], [], xs.length, ⟨fun _ _ e => e, fun _ _ e => e⟩, ⟨_, rfl, rfl⟩, rfl, q1.reserve hD, .nil, rfl, ys, S3, hl, p2, ?_⟩
        cases hfin : fin ys S3 with
        | none => rw [hfin] at p2; exact p2.elim
        | some r => exact hf.fit _ _ _ hfin
  · rintro i m H2 ⟨g2, S2, acc, ws, f, l2, ⟨r, hr, hr1⟩, htb, q2, racc, rfl, ys, S3, hl, p2, hz⟩
    subst hr1
    have gD : g2.rs D = some (.lst ws) := by rw [hr, upd_same]
    have D0 : g1.rs D = none := by
      cases e : g1.rs D with
      | none => rfl
      | some u => rw [(q1.rs D u e).1] at hD; cases hD
    have h0 : ∀ a u, g1.rs a = some u → a ≠ D ∧ g2.rs a = some u := fun a u e => by
      have ha : a ≠ D := fun z => by rw [z, D0] at e; cases e
      exact ⟨ha, by rw [hr, upd_ne ha]; exact e⟩
    cases h : srcGet src S2 with
    | none =>
      cases m <;> (simp only [lcG, h] at hl; cases hl)
    | some xs =>
      obtain ⟨jst, jgo⟩ := jo i H2 g2 S2 xs l2 q2 h
      cases hx : xs[i]? with
      | none =>
        refine .inl ⟨jst (List.getElem?_eq_none_iff.mp hx), ?_⟩
        have e : ys = [] ∧ S3 = S2 := by
          cases m <;> (simp only [lcG, h, hx] at hl; cases hl; exact ⟨rfl, rfl⟩)
        obtain ⟨e1, e2⟩ := e
        subst e1 e2
        rw [List.append_nil] at p2
        refine hf.go g2 g1.rs S3 H2 acc ws D Q q2 gD h0 racc ?_
        have lle : g1.le ⟨g2.fz, g2.m, g1.rs, g2.tb⟩ := ⟨l2.fz, l2.m, rfl, htb⟩
        cases hfin : fin acc S3 with
        | none => rw [hfin] at p2; exact p2.elim
        | some rr =>
          obtain ⟨a, S4⟩ := rr
          rw [hfin] at p2
          exact fun b H5 g5 l5 q5 r5 => p2 b H5 g5 (lle.trans l5) q5 r5
      | some x =>
        cases m with
        | zero => simp only [lcG, h, hx] at hl; cases hl
        | succ m =>
          simp only [lcG, h, hx] at hl
          obtain ⟨go, yl⟩ := jgo x hx
          refine .inr ⟨go, _, fun H' n => ⟨m, Nat.lt_succ_self _, n⟩, fun v H' y => ?_⟩
          obtain ⟨g3, l3, q3, r3⟩ := yl v H' y
          cases ht : t x (wipeP sp vs) S2 with
          | none => simp only [ht] at hl; cases hl
          | some sp1 =>
            simp only [ht] at hl
            have E3 : RepE X.K g3 (wipeP sp vs) (wipe σ vs) := (hE1.monoV l2).mono l3
            refine ⟨g3, wipeP sp vs, S2, x, sp1, q3, E3, r3, ht, fun σ4 g4 l4 q4 e4 near => ⟨wipe_near near hv, g4, sp1, S2, q4, e4, ?_⟩⟩
            obtain ⟨k, S5, hk, hl2⟩ := Out.pure_ok hl (by intro z; cases z)
            rw [hk]
            intro b H5 g5 l5 q5 eb
            subst eb
            have l25 : g2.le g5 := (l3.trans l4).trans l5
            have lv5 : g1.lv g5 := l2.trans l25.lv
            have rs5 : g5.rs = g2.rs := l25.rs
            have tb5 : g5.tb = g1.tb := l25.tb.trans htb
            cases k with
            | false =>
              simp only [Bool.false_eq_true, if_false] at hl2 ⊢
              exact ⟨g5, S5, acc, ws, m, lv5, ⟨_, rs5.trans hr, rfl⟩, tb5, q5, RepVs.mono l25 _ _ racc, rfl, ys, S3, hl2, p2, hz⟩
            | true =>
              simp only [if_true] at hl2 ⊢
              obtain ⟨y', S6, hy, hl3⟩ := Out.pure_ok hl2 (by intro z; cases z)
              obtain ⟨zs, S7, hz7, hl4⟩ := Out.pure_ok hl3 (by intro z; cases z)
              cases hl4
              refine ⟨g5, sp1, S5, q5, e4.mono l5, ?_⟩
              rw [hy]
              intro w H6 g6 l6 q6 r6
              have l26 : g2.le g6 := l25.trans l6
              have rs6 : g6.rs = upd g1.rs D (.lst ws) := l26.rs.trans hr
              have gD6 : g6.rs D = some (.lst ws) := by rw [rs6, upd_same]
              have hlen := racc.length
              refine ⟨ws, (q6.rs D _ gD6).1, by rw [← hlen]; simp only [List.length_append, List.length_cons] at hz; omega, ?_⟩
              have q7 := q6.rekeep (o' := .lst (ws ++ [w])) gD6 noTab_lst
              have lv7 : g6.lv { g6 with rs := upd g6.rs D (.lst (ws ++ [w])) } := ⟨fun _ _ e => e, fun _ _ e => e⟩
              refine ⟨{ g6 with rs := upd g6.rs D (.lst (ws ++ [w])) }, S6, acc ++ [y'], ws ++ [w], m, (l2.trans l26.lv).trans lv7, ⟨g1.rs, by show upd g6.rs D _ = _; rw [rs6, upd_upd], rfl⟩, l26.tb.trans htb, q7, ?_, rfl, zs, S3, hz7, by rw [List.append_assoc]; exact p2, by rw [List.append_assoc]; exact hz⟩
              exact RepVs.monoV lv7 _ _ ((RepVs.mono l26 _ _ racc).append (.cons r6 .nil))
end
end MX
end
section
namespace L2
open PySem PySem.Spec PyProof.Rows
def IteF (K : PySem.W.Frag) (a : Addr) : It :=
  ⟨(Ite K a).go, fun i H v H' => ∃ T, ∃ o : Obj, ∃ x, v = .ref T ∧ H T = none ∧ o.dict = none ∧ H' = upd H T (.frz o (.tup [.int (i : Nat), x])) ∧ ∀ xs, SqL K H a xs → xs[i]? = some x, (Ite K a).stop⟩
section
variable {P : Program} {w : World} {K : PySem.W.Frag} {elts : List Expr} {kk : Nat} {tpos : Pos}
theorem in_two {b e it : Addr} (h : b ∈ [e, it]) : b = e ∨ b = it := by simpa using h
theorem turn_enumF (a e it : Addr) :
    Turn P w K (.Tuple elts kk tpos) (IteF K a) [e, it] e (fun i h => (∃ old, IsEnum h e it ((i : Nat) : Int) old) ∧ h.IsListIter it a i ∧ e ≠ it) where
  mem := (turn_enum (P := P) (w := w) (K := K) (elts := elts) (kk := kk) (tpos := tpos) a e it).mem
  obj := (turn_enum (P := P) (w := w) (K := K) (elts := elts) (kk := kk) (tpos := tpos) a e it).obj
  keep := (turn_enum (P := P) (w := w) (K := K) (elts := elts) (kk := kk) (tpos := tpos) a e it).keep
  done := (turn_enum (P := P) (w := w) (K := K) (elts := elts) (kk := kk) (tpos := tpos) a e it).done
  self := (turn_enum (P := P) (w := w) (K := K) (elts := elts) (kk := kk) (tpos := tpos) a e it).self
  item := fun X hP hw hK hc i pins s σ H E I hf ⟨⟨old, he⟩, hit, ne⟩ ⟨xs, x, hq, hx⟩ => by
    subst hP hw hK
    obtain ⟨its, rv, p, _⟩ := I.list hq
    obtain ⟨u, hu, ru⟩ := rv.get hx
    have le1 : e < s.heap.objs.size := Heap.lt_size he
    have le2 : it < s.heap.objs.size := by
      obtain ⟨_, q, _⟩ := hit
      exact Heap.lt_size q
    refine wpAny_pyNext_enum_item he hit p.isList (x := u) (by simpa using hu) ne ?_
    intro h' ho hit' hT hsz hk
    refine ⟨_, rfl, wpAny_letOwnedTupleGo_enum (s := { s with heap := h', toks := s.toks + 1 }) ho ?_⟩
    intro h'' he' sb
    have hT2 := (sb.2 _ (Nat.ne_of_gt le1)).trans hT
    have fr := I.hok.fresh (Nat.le_refl s.heap.objs.size)
    refine ⟨.ref s.heap.objs.size, upd H s.heap.objs.size (.frz { cls := .type "tuple", data := .seq #[.int i s.toks, u] } (.tup [.int (i : Nat), x])), ?_, rfl,
      ⟨_, _, x, rfl, fr, rfl, rfl, fun ys hy => by rw [I.list_inj hy hq]; exact hx⟩, ⟨⟨u, by rw [show ((i + 1 : Nat) : Int) = (i : Int) + 1 by omega]; exact he'⟩, hit'.at fun o q => (sb.2 it (Ne.symm ne)).trans q, ne⟩, fun b hb => ?_⟩
    · refine I.turnedNew (ch := [e, it]) (fun b ob hb q => ?_) hf (Nat.le_refl _) ⟨hT2, by show 2 ≤ sizeLine; decide, [.int i s.toks, u], .cons ⟨_, rfl⟩ (.cons ru .nil), ⟨_, hT2, rfl, _, rfl⟩⟩
      have b1 : b ≠ e := fun z => hb (by simp [z])
      have b2 : b ≠ it := fun z => hb (by simp [z])
      exact (sb.2 b b1).trans (hk b ob b1 b2 q)
    · have lt : b < s.heap.objs.size := by
        rcases in_two hb with z | z <;> rw [z] <;> assumption
      rw [upd_ne (Nat.ne_of_lt lt)]
      exact (hf b hb).1
end
section
variable {X : Cx} {e e2 : Expr} {ta : TA} {p pos tpos : Pos} {elts : List Expr} {kk : Nat}
def iEnumF (K : PySem.W.Frag) (ta : TA) : TI := fun σ H R => ta σ H fun vs H1 => ∃ a, ∃ xs : List V, vs = [.ref a] ∧ SqL K H1 a xs ∧ R (IteF K a) H1
theorem pi_enumF (hg : Gl X "enumerate") (hm : X.mg "enumerate" = none) (ha : PA X [e] ta) (hs : starEach [e] X.env = [(false, eval e X.env)] := by rfl) :
    PI X (.Tuple elts kk tpos) (.Call (.Name "enumerate" p) [e] [] pos) (iEnumF X.K ta) := by
  constructor
  intro pins s σ H R I h
  refine Call_ (ld_blt I hg hm boot_enumerate (PyProof.Rows.callWith_type1 (thn (ha.run pos pins s σ H _ I h) ?_) hs rfl))
  intro us s1 ⟨vs, H1, I1, r1, a, xs, ex, hq, q⟩
  subst ex
  obtain ⟨u, eu, ru⟩ := vals1 r1
  have ea : u = .ref a := ru
  subst eu ea
  obtain ⟨its, rv, pl, _⟩ := I1.list hq
  refine call_enumerate_list pl.isList ?_
  intro h' he hit hsz hk
  refine wpAny_pyIter_enum he ⟨s1.heap.objs.size + 1, [s1.heap.objs.size + 1, s1.heap.objs.size], _, _, H1, rfl, I1.kept (t' := s1.toks) hk, turn_enumF a (s1.heap.objs.size + 1) s1.heap.objs.size, ⟨⟨.none, he⟩, hit, Nat.succ_ne_self _⟩, fun b hb => ?_, q⟩
  have ge : s1.heap.objs.size ≤ b := by
    rcases in_two hb with z | z <;> rw [z] <;> first | exact Nat.le_refl _ | exact Nat.le_add_right _ _
  exact I1.fpOk ge (I1.hok.fresh ge)
end
end L2
end
section
namespace MXE
open PySem
open PySem.Sem (wp)
open AutoSeq1 (wpAny_loadPart')
theorem meets_enumerate_newT (l : Addr) (items : Array Value) (n : Nat) (dct : Option Addr) (sl : Array (Option Value)) :
    Meets (Builtin.«enumerate.__new__» ⟨[.type "enumerate", .ref l], []⟩) (fun _ R s => s.heap.get? l = some { cls := .type "tuple", dict := dct, data := .seq items n, slots := sl } ∧
      R (.ok (.ret (.ref (s.heap.push { cls := .type "tuple_iterator", data := .fields #[.ref l, .int 0 0] }).objs.size)))
        { s with heap := (s.heap.push { cls := .type "tuple_iterator", data := .fields #[.ref l, .int 0 0] }).push { cls := .type "enumerate", data := .fields #[.none, .bool false, .ref s.heap.objs.size, rawInt 0, .none, .none] } }) :=
  .of_wp fun prog w A R s h => by
    obtain ⟨hp, g, d, tk, os⟩ := s; obtain ⟨hl, h⟩ := h
    have hsub := sub_enumerate
    have hL : Heap.IsTuple (Shared.heap ⟨hp, g, d, tk, os⟩) l items := ⟨_, hl, rfl, n, rfl⟩
    wp_walk using wpAny_loadPart' hl
    refine wpAny_stack_any fun st => wpAny_pure ?_
    split
    · rename_i c _ _ _ _ _
      cases (c == Value.type "enumerate")
      · wp_walk using wpAny_loadPart' hl, wpAny_pyIter_tuple hL
        exact ⟨_, rfl, h⟩
      · wp_walk using wpAny_loadPart' hl, wpAny_pyIter_tuple hL
        exact ⟨_, rfl, h⟩
    · wp_walk using wpAny_loadPart' hl, wpAny_pyIter_tuple hL
      exact ⟨_, rfl, h⟩
section
variable {prog : Program} {w : World} {A : Around} {E : Value → Shared → Prop} {s : Shared}
theorem call_enumerate_tuple {l : Addr} {items : Array Value} {Q : Value → Shared → Prop} (hL : s.heap.IsTuple l items)
    (h : ∀ h', IsEnum h' (s.heap.objs.size + 1) s.heap.objs.size 0 .none → h'.IsTupleIter s.heap.objs.size l 0 → h'.objs.size = s.heap.objs.size + 2 →
      (∀ b o, s.heap.get? b = some o → h'.get? b = some o) → Q (.ref (s.heap.objs.size + 1)) { s with heap := h' }) :
    wpAny (model prog w) A (call (.type "enumerate") [.ref l]) Q E s := by
  obtain ⟨⟨c, dct, dt, sl⟩, hl, hc, n, hd⟩ := hL
  replace hc : c = .type "tuple" := hc
  replace hd : dt = .seq items n := hd
  subst hc hd
  refine callType_new F.called_enumerate (by decide) (F.typeCall_enumerate_1 _) (F.newCall_enumerate_1 _) (fun obj => F.args_object_init_2 obj _) F.entry_enumerate_new
    (meets_enumerate_newT l items n dct sl) ⟨hl, ?_⟩
  have hz : (s.heap.push { cls := .type "tuple_iterator", data := .fields #[.ref l, .int 0 0] }).objs.size = s.heap.objs.size + 1 := Heap.size_push ..
  show _ ∧ _
  rw [hz]
  have he : IsEnum ((s.heap.push { cls := .type "tuple_iterator", data := .fields #[.ref l, .int 0 0] }).push
      { cls := .type "enumerate", data := .fields #[.none, .bool false, .ref s.heap.objs.size, rawInt 0, .none, .none] }) (s.heap.objs.size + 1) s.heap.objs.size 0 .none := by
    have := Heap.get?_push_size (s.heap.push { cls := .type "tuple_iterator", data := .fields #[.ref l, .int 0 0] })
      (o := { cls := .type "enumerate", data := .fields #[.none, .bool false, .ref s.heap.objs.size, rawInt 0, .none, .none] }) rfl
    rw [hz] at this; exact this
  refine ⟨⟨_, he, rfl⟩, h _ he ⟨_, Heap.get?_push_of_some _ (Heap.get?_push_size _ rfl), rfl, rfl⟩ (by rw [Heap.size_push, hz]) fun b o x => Heap.get?_push_of_some _ (Heap.get?_push_of_some _ x)⟩
theorem draws_tuple {prog : Program} {w : World} {A : Around} (hh : A.handled = none) (it l : Addr) (hne : l ≠ it) (items : Array Value) :
    Draws prog w A it [it, l] items.size (fun i v => items[i]? = some v) (fun i h => h.IsTupleIter it l i ∧ h.IsTuple l items) where
  live := fun _ _ st => let ⟨o, ho, _⟩ := st.1; ⟨o, ho⟩
  frame := fun _ _ _ st hk => ⟨st.1.at fun o e => hk it (by simp) o e, (by
    obtain ⟨o, h1, h2⟩ := st.2
    exact ⟨o, hk l (by simp) o h1, h2⟩)⟩
  item := fun i s Q E hi st hQ => by
    refine RZ.nextOf_tuple_item st.1 st.2 (x := items[i]) (by simp [hi]) fun h' hit' hs' => ?_
    exact hQ _ h' s.toks (by simp [hi]) ⟨hit', (by
      obtain ⟨o, h1, h2⟩ := st.2
      exact ⟨o, (hs'.2 l hne).trans h1, h2⟩)⟩ hs'
  done := fun s Q E st hE => RZ.nextOf_tuple_end hh st.1 st.2 (by simp) hE
end
end MXE
namespace MX
open PySem PySem.Spec PyProof.Rows L2
def IteT (K : PySem.W.Frag) (a : Addr) : It :=
  ⟨fun i H => ∃ (xs : List V) (x : V), SqT K H a xs ∧ xs[i]? = some x, fun i H v H' => ∃ T, ∃ o : Obj, ∃ x, v = .ref T ∧ H T = none ∧ o.dict = none ∧ H' = upd H T (.frz o (.tup [.int (i : Nat), x])) ∧ ∀ xs, SqT K H a xs → xs[i]? = some x, fun i H => ∃ xs : List V, SqT K H a xs ∧ xs.length ≤ i⟩
theorem turn_enumT {P : Program} {w : World} {K : PySem.W.Frag} {elts : List Expr} {kk : Nat} {tpos : Pos} (a e it : Addr) :
    Turn P w K (.Tuple elts kk tpos) (IteT K a) [e, it] e (fun i h => (∃ old, IsEnum h e it ((i : Nat) : Int) old) ∧ h.IsTupleIter it a i ∧ e ≠ it ∧ a ≠ it) where
  mem := by simp
  obj := fun i h st b hb => by
    obtain ⟨⟨old, he⟩, ⟨o, ho, hc, hd⟩, _⟩ := st
    have e' : b = e ∨ b = it := by simpa using hb
    rcases e' with z | z
    · rw [z]; exact ⟨_, he, fun v q => nomatch q⟩
    · rw [z]; exact ⟨o, ho, fun v q => by rw [hd] at q; cases q⟩
  keep := fun i h h' st k => let ⟨⟨old, he⟩, hi, hne⟩ := st; ⟨⟨old, k e (by simp) _ he⟩, hi.at fun o q => k it (by simp) o q, hne⟩
  item := by
    intro X hP hw hK hc i pins s σ H E I hf st hg
    subst hP hw hK
    obtain ⟨⟨old, he⟩, hit, hne, hai⟩ := st
    obtain ⟨xs, x, hq, hx⟩ := hg
    obtain ⟨its, rv, p, hz⟩ := I.tuple hq
    obtain ⟨u, hu, ru⟩ := rv.get hx
    have hel : e < s.heap.objs.size := Heap.lt_size he
    have hil : it < s.heap.objs.size := by obtain ⟨_, q, _⟩ := hit; exact Heap.lt_size q
    have hea : e ≠ a := fun z => by
      obtain ⟨o, h1, h2, _⟩ := p
      rw [← z, he] at h1
      cases h1
      exact absurd (Value.type.inj (show Value.type "enumerate" = Value.type "tuple" from h2)) (by decide)
    have hlt : i < its.toArray.size := by
      have := (List.getElem?_eq_some_iff.mp hu).1
      simpa using this
    refine wpAny_pyNext_enum_itemD (MXE.draws_tuple (A := X.A.in1) (I.ok.hd hc) it a hai its.toArray) he ⟨hit, p⟩ hlt hne (by simp [hne, hea]) fun u' h' tk hP' ho st' hT hsz hk => ?_
    have eu : u' = u := by
      have hP' : its.toArray[i]? = some u' := hP'
      have : its[i]? = some u' := by simpa using hP'
      rw [hu] at this; exact (Option.some.inj this).symm
    subst eu
    refine ⟨_, rfl, wpAny_letOwnedTupleGo_enum (s := { s with heap := h', toks := tk + 1 }) ho fun h'' he' sb => ?_⟩
    have hT2 : h''.get? s.heap.objs.size = some { cls := .type "tuple", data := .seq #[.int i tk, u'] } := (sb.2 _ (Nat.ne_of_gt hel)).trans hT
    have I1 : Inv X pins σ (upd H s.heap.objs.size (.frz { cls := .type "tuple", data := .seq #[.int i tk, u'] } (.tup [.int (i : Nat), x]))) { s with heap := h'', toks := tk + 1 } :=
      I.turnedNew (ch := [e, it]) (fun b ob hb q => (sb.2 b (fun z => hb (by simp [z]))).trans (hk b ob (fun z => hb (by simp [z])) (fun z => hb (by simp [z])) q)) hf (Nat.le_refl _) ⟨hT2, by show 2 ≤ sizeLine; decide, [.int i tk, u'], .cons ⟨_, rfl⟩ (.cons ru .nil), ⟨_, hT2, rfl, _, rfl⟩⟩
    refine ⟨.ref s.heap.objs.size, _, I1, rfl, ⟨_, _, x, rfl, I.hok.fresh (Nat.le_refl _), rfl, rfl, fun ys hy => by rw [I.tuple_inj hy hq]; exact hx⟩, ⟨⟨u', ?_⟩, st'.1.at fun o q => (sb.2 it (Ne.symm hne)).trans q, hne, hai⟩, fun b hb => ?_⟩
    · have e1 : ((i + 1 : Nat) : Int) = (i : Int) + 1 := by omega
      rw [e1]; exact he'
    · have hb' : b < s.heap.objs.size := by
        have e' : b = e ∨ b = it := by simpa using hb
        rcases e' with z | z
        · rw [z]; exact hel
        · rw [z]; exact hil
      rw [upd_ne (Nat.ne_of_lt hb')]
      exact (hf b hb).1
  done := by
    intro X hP hw hK hc i pins s σ H E I hf st hg
    subst hP hw hK
    obtain ⟨⟨old, he⟩, hit, hne, hai⟩ := st
    obtain ⟨xs, hq, hx⟩ := hg
    obtain ⟨its, rv, p, hz⟩ := I.tuple hq
    obtain ⟨f0, f1, f2, f3, f4, f5⟩ := hf it (by simp)
    have hl := rv.length
    have D := RZ.nextOf_tuple_end (prog := X.prog) (w := X.w) (A := X.A.in1) (E := E) (s := s) (Q := fun _ _ => False) (show X.A.in1.handled = none from I.ok.hd hc) hit (show s.heap.IsTuple a its.toArray from p) (by simp; omega)
    -- the end by hand: any place behind the last one ends alike
    unfold pyNext
    refine wpAny_bind (wpAny_attempt (wpAny_callSpecial?_slot (name := Str.ofString "__next__") (show s.TypeIs (.ref e) "enumerate" from ⟨_, he, rfl⟩) F.slot_enumerate_next
      (wpAny_call_entry F.slot_enumerate_next (show s.TypeIs (.ref e) "enumerate" from ⟨_, he, rfl⟩) F.entry_enumerate_next ?_ (F.args_enumerate_next_1 _))))
    show wpAny _ _ (field (.ref e) 2 >>= _) _ _ _
    refine wpAny_bind (wpAny_field he rfl (x := .ref it) rfl ?_)
    refine wpAny_bind (RZ.nextOf_tuple_end (show X.A.in1.handled = none from I.ok.hd hc) hit (show s.heap.IsTuple a its.toArray from p) (by simp; omega) fun h' x he' hx' => ?_)
    obtain ⟨o, ho, hcl⟩ := hx'
    refine wpAny_bind (wpAny_isInstance (T := "StopIteration") (b := true) ⟨o, ho, hcl⟩ isSubtype_stop ?_)
    exact wpAny_pure ⟨rfl, I.turned (t' := s.toks) (fun b o hb q => he' b o hb q) f0 f1 f3 f4 f5⟩
  self := fun A i s Q E st h => let ⟨⟨_, he⟩, _⟩ := st; wpAny_pyIter_enum he h
def iEnumT (K : PySem.W.Frag) (ta : TA) : TI := fun σ H R => ta σ H fun vs H1 => ∃ a xs, vs = [.ref a] ∧ SqT K H1 a xs ∧ R (IteT K a) H1
theorem pi_enumT {X : Cx} {e : Expr} {ta : TA} {p pos tpos : Pos} {elts : List Expr} {kk : Nat} (hg : Gl X "enumerate") (hm : X.mg "enumerate" = none) (ha : PA X [e] ta) (hs : starEach [e] X.env = [(false, eval e X.env)] := by rfl) :
    PI X (.Tuple elts kk tpos) (.Call (.Name "enumerate" p) [e] [] pos) (iEnumT X.K ta) := by
  refine ⟨fun pins s σ H R I h => ?_⟩
  refine Call_ (ld_blt I hg hm boot_enumerate (PyProof.Rows.callWith_type1 (thn (ha.run pos pins s σ H _ I h) fun us s1 ⟨vs, H1, I1, r1, q1⟩ => ?_) hs rfl))
  obtain ⟨a, xs, ex, hq, q⟩ := q1
  subst ex
  cases r1 with
  | cons r rr =>
    cases rr
    cases r
    obtain ⟨its, rv, p', hz⟩ := I1.tuple hq
    have hal : a < s1.heap.objs.size := by
      obtain ⟨o, ho, _⟩ := p'
      exact Heap.lt_size ho
    refine MXE.call_enumerate_tuple p' fun h' he hit hsz hk => wpAny_pyIter_enum he ?_
    have I2 : Inv X pins σ H1 { s1 with heap := h' } := I1.kept (t' := s1.toks) hk
    refine ⟨s1.heap.objs.size + 1, [s1.heap.objs.size + 1, s1.heap.objs.size], _, _, H1, rfl, I2, turn_enumT a (s1.heap.objs.size + 1) s1.heap.objs.size, ⟨⟨.none, he⟩, hit, Nat.succ_ne_self _, Nat.ne_of_lt hal⟩, fun b hb => ?_, q⟩
    have e' : b = s1.heap.objs.size + 1 ∨ b = s1.heap.objs.size := by simpa using hb
    have hle : s1.heap.objs.size ≤ b := by
      rcases e' with z | z
      · rw [z]; exact Nat.le_add_right _ _
      · rw [z]; exact Nat.le_refl _
    exact I1.fpOk hle (I1.hok.fresh hle)
section
variable {X : Cx} {e : Expr} {te : Sx} {pos : Pos}
theorem JOk.enumL {g : Gh} {a : Addr} {src : Src} (h : ∀ (g' : Gh) (S : Sto) (H : Hp) (ys : List PV), g.lv g' → RepS X.K X.mp g' S H → srcGet src S = some ys → ∃ xs vs, ys = enumP 0 xs ∧ SqL X.K H a vs ∧ RepVs X.K g' xs vs) : JOk X g src (IteF X.K a) := fun i H g' S ys l hS e => by
  obtain ⟨xs, vs, q0, q1, q2⟩ := h g' S H ys l hS e
  subst q0
  refine ⟨fun hi => ⟨vs, q1, by rw [enumP_length] at hi; rw [← q2.length]; exact hi⟩, fun y hy => ?_⟩
  rw [enumP_get] at hy
  cases hx : xs[i]? with
  | none => rw [hx] at hy; cases hy
  | some x =>
    rw [hx] at hy
    obtain ⟨v, e1, r⟩ := q2.get hx
    refine ⟨⟨vs, v, q1, e1⟩, fun u H' ⟨T, oT, x', e2, hT, dT, e3, k⟩ => ?_⟩
    subst e2 e3
    have := k vs q1
    rw [e1] at this; cases this
    obtain ⟨h1, l1⟩ := hS.froze (o := .frz oT (.tup [.int (i : Nat), v])) hT
    cases hy
    refine ⟨_, l1, h1, T, [.int (i : Nat), v], rfl, .inl ⟨oT, upd_same, dT⟩, ?_⟩
    exact .cons (by show V.int _ = V.int _; simp) (.cons (RepV.mono l1 _ _ r) .nil)
theorem JOk.enumT {g : Gh} {a : Addr} {xs : List PV} {vs : List V} (h : TpQ X.K g.fz a vs) (r : RepVs X.K g xs vs) : JOk X g (.items (enumP 0 xs)) (IteT X.K a) := fun i H g' S ys l hS e => by
  cases e
  have q1 : SqT X.K H a vs := TpQ.t (fun b o z => hS.fz b o (l.fz b o z)) h
  refine ⟨fun hi => ⟨vs, q1, by rw [enumP_length] at hi; rw [← r.length]; exact hi⟩, fun y hy => ?_⟩
  rw [enumP_get] at hy
  cases hx : xs[i]? with
  | none => rw [hx] at hy; cases hy
  | some x =>
    rw [hx] at hy
    obtain ⟨v, e1, r1⟩ := r.get hx
    refine ⟨⟨vs, v, q1, e1⟩, fun u H' ⟨T, oT, x', e2, hT, dT, e3, k⟩ => ?_⟩
    subst e2 e3
    have := k vs q1
    rw [e1] at this; cases this
    obtain ⟨h1, l1⟩ := hS.froze (o := .frz oT (.tup [.int (i : Nat), v])) hT
    cases hy
    refine ⟨_, l1, h1, T, [.int (i : Nat), v], rfl, .inl ⟨oT, upd_same, dT⟩, ?_⟩
    exact .cons (by show V.int _ = V.int _; simp) (.cons (RepV.mono l1 _ _ (RepV.monoV l _ _ r1)) .nil)
def srcEnum (v : PV) (S1 : Sto) : Out Src := match v with
  | .tup xs => .ok (.items (enumP 0 xs)) S1
  | .lst xs => .ok (.items (enumP 0 xs)) S1
  | .ref n => match listOf S1 (.ref n) with
    | some _ => .ok (.liveE n) S1
    | none => .stuck
  | _ => .stuck
def siEnum (te : Sx) : Si := fun sp S => (te sp S).bind srcEnum
theorem si_enum {elts : List Expr} {kk : Nat} {p tpos : Pos} (hg : Gl X "enumerate") (hm : X.mg "enumerate" = none) (he : PE X e (rdE X te)) (hs : starEach [e] X.env = [(false, eval e X.env)] := by rfl) :
    PI X (.Tuple elts kk tpos) (.Call (.Name "enumerate" p) [e] [] pos) (rdI X (siEnum te)) := by
  refine ((pi_enumF hg hm (pa_cons he pa_nil (by rw [hs]; rfl)) hs).or (pi_enumT hg hm (pa_cons he pa_nil (by rw [hs]; rfl)) hs)).imp fun σ H R ⟨g, sp, S, hS, hE, p⟩ => ?_
  cases h : te sp S with
  | exc x S1 =>
    refine .inl ⟨g, sp, S, hS, hE, ?_⟩
    unfold siEnum at p
    rw [h] at p ⊢
    exact p
  | stuck =>
    unfold siEnum at p
    rw [h] at p
    exact p.elim
  | ok v S1 =>
    have go : ∀ (Q : VK), (∀ x H1, (∃ g1, g.le g1 ∧ RepS X.K X.mp g1 S1 H1 ∧ RepE X.K g1 sp σ ∧ RepV X.K g1 v x ∧ Post X g1 (JOk X) (ExcT X g1 sp) (srcEnum v S1) R) → Q x H1) → rdE X te σ H Q := fun Q hQ => by
      refine ⟨g, sp, S, hS, hE, ?_⟩
      rw [h]
      intro x H1 g1 l1 q1 r1
      refine hQ x H1 ⟨g1, l1, q1, hE.mono l1, r1, ?_⟩
      unfold siEnum at p
      rw [h] at p
      exact (Post.imp (show Post X g (JOk X) (ExcT X g sp) (srcEnum v S1) R from p) (fun x S' t => t.mono l1) fun _ _ q => q).le l1
    cases v with
    | tup xs =>
      refine .inr (go _ fun x H1 ⟨g1, l1, q1, e1, ⟨a, vs, ex, k1, k2⟩, p1⟩ => ?_)
      subst ex
      exact ⟨a, vs, rfl, TpQ.t q1.fz k1, p1 _ H1 g1 (.refl _) q1 (JOk.enumT k1 k2)⟩
    | lst xs =>
      refine .inl (go _ fun x H1 ⟨g1, l1, q1, e1, ⟨a, vs, ex, k1, k2⟩, p1⟩ => ?_)
      subst ex
      refine ⟨a, vs, rfl, (LsQ.mono q1.fz k1).sq, p1 _ H1 g1 (.refl _) q1 (JOk.enumL fun g' S' H' ys l hS' e' => ?_)⟩
      cases e'
      exact ⟨xs, vs, rfl, (LsQ.mono (fun b o z => hS'.fz b o (l.fz b o z)) k1).sq, RepVs.monoV l _ _ k2⟩
    | ref n =>
      refine .inl (go _ fun x H1 ⟨g1, l1, q1, e1, r1, p1⟩ => ?_)
      obtain ⟨a, ex, em⟩ := id r1
      unfold srcEnum at p1
      cases h2 : listOf S1 (.ref n) with
      | none => simp only [h2] at p1; exact p1.elim
      | some xs =>
        simp only [h2] at p1
        obtain ⟨a', vs, ex', k1, k2⟩ := q1.list r1 h2
        subst ex
        cases ex'
        refine ⟨a, vs, rfl, k1.sq, p1 _ H1 g1 (.refl _) q1 (JOk.enumL fun g' S' H' ys l hS' e' => ?_)⟩
        have e'' : (listOf S' (.ref n)).map (enumP 0) = some ys := e'
        cases h3 : listOf S' (.ref n) with
        | none => rw [h3] at e''; cases e''
        | some zs =>
          rw [h3] at e''; cases e''
          obtain ⟨a2, ws, ex2, k3, k4⟩ := hS'.list (RepV.monoV l _ _ r1) h3
          cases ex2
          exact ⟨zs, ws, rfl, k3.sq, k4⟩
    | _ =>
      unfold siEnum at p
      rw [h] at p
      exact p.elim
end
end MX
end
section
namespace MX
open PySem PySem.Spec PyProof.Rows L2
section
variable {X : Cx} {elt tg iter : Expr} {ifs : List Expr} {scope : Scope} {own : List (Str × Nat)} {pos : Pos} {ti : Si} {t : Sg} {is : List Nat} {tc : St'} {te : Sx} {fin : VN}
theorem pts_0 {X : Cx} {c : Expr} {t : St'} (h : PT X c (rdT X t)) : PTs X [c] (rdT0 X t) := pts_one (pt_0 h)
theorem pts_yes {X : Cx} : PTs X [] (rdT0 X stYes) := ⟨fun pins s σ H Q I ⟨g, sp, S, hS, hE, p⟩ => pts_nil.run pins s σ H Q I (p true H g (.refl _) hS rfl)⟩
theorem se_lc (own : List (Str × Nat)) (hf : FinL X fin) (hc : X.calm = true) (hN : X.N.Nodup) (hi : PI X tg iter (rdI X ti)) (ok : BlkOk X.N X.env.scope scope own)
    (hg : ∀ (s : Shared) (H : Hp) (C : Addr) (cl : List (Str × Addr)) (fp : List Addr), PG (X.blk s H scope (compEnvC scope cl C X.env) fp) tg (rdG X is t))
    (ht : ∀ (s : Shared) (H : Hp) (C : Addr) (cl : List (Str × Addr)) (fp : List Addr), PTs (X.blk s H scope (compEnvC scope cl C X.env) fp) ifs (rdT0 X tc))
    (he : ∀ (s : Shared) (H : Hp) (C : Addr) (cl : List (Str × Addr)) (fp : List Addr), PE (X.blk s H scope (compEnvC scope cl C X.env) fp) elt (rdE0 X te))
    (hv : ∀ i ∈ is, i ∈ own.map (·.2) := by decide) (hs : ∀ x, foldedSetIterable iter X.env x = pure x := by intro _; rfl) :
    PE X (.ListComp elt [⟨tg, iter, ifs, 0⟩] scope pos) (rdE X (sxLc fin ti (own.map (·.2)) t tc te)) := (pe_lc hc hN hi ok hg ht he hs).imp fun _ _ _ h => rdLc hf hv h
/-- name = [..] -/
theorem ss_setLc (i : Nat) (own : List (Str × Nat)) {y : Str} {py spos : Pos} (hf : FinL X fin) (hc : X.calm = true) (hN : X.N.Nodup) (hi : PI X tg iter (rdI X ti)) (ok : BlkOk X.N X.env.scope scope own)
    (hg : ∀ (s : Shared) (H : Hp) (C : Addr) (cl : List (Str × Addr)) (fp : List Addr), PG (X.blk s H scope (compEnvC scope cl C X.env) fp) tg (rdG X is t))
    (ht : ∀ (s : Shared) (H : Hp) (C : Addr) (cl : List (Str × Addr)) (fp : List Addr), PTs (X.blk s H scope (compEnvC scope cl C X.env) fp) ifs (rdT0 X tc))
    (he : ∀ (s : Shared) (H : Hp) (C : Addr) (cl : List (Str × Addr)) (fp : List Addr), PE (X.blk s H scope (compEnvC scope cl C X.env) fp) elt (rdE0 X te))
    (hsw : swapsWith (.ListComp elt [⟨tg, iter, ifs, 0⟩] scope pos) (some (.Name y py)) spos.line X.env = pure true := by exact sw_true rfl rfl rfl (by decide +kernel))
    (hy : X.N[i]? = some y := by rfl) (hyl : X.env.scope.names.lookup y = some .local := by rfl) (hv : ∀ i ∈ is, i ∈ own.map (·.2) := by decide) (hs : ∀ x, foldedSetIterable iter X.env x = pure x := by intro _; rfl) :
    PS X (.Assign [.Name y py] (.ListComp elt [⟨tg, iter, ifs, 0⟩] scope pos) spos) (rdS X (ssSet i (sxLc fin ti (own.map (·.2)) t tc te))) := (ps_setLc hc hN hy hyl hsw hi ok hg ht he hs).imp fun D σ H ⟨g, sp, S, hS, hE, p⟩ => by
  have p : PostS X g (bindS (sxLc fin ti (own.map (·.2)) t tc te sp S) sp fun v S1 => .nx (sp.set i (some v)) S1) D := p
  have q := rdE.sq hS hE p
  refine rdLc hf hv (q.mono fun x H1 ⟨a, g1, S1, l1, q1, e1, r1, p1⟩ => ?_)
  exact p1 _ H1 g1 (.refl _) q1 (e1.set r1 i)
end
def putP (kvs : List (Key × PV)) (k : Key) (v : PV) : List (Key × PV) :=
  if (kvs.any fun kv => decide (kv.1 = k)) then kvs.map fun kv => if kv.1 = k then (kv.1, v) else kv else kvs ++ [(k, v)]
def valP (kvs : List (Key × PV)) (k : Key) : Option PV := (kvs.find? fun kv => decide (kv.1 = k)).map (·.2)
def keyP : PV → Option Key
  | .int i => some (.inl i)
  | .str z => some (.inr z)
  | _ => none
section
variable {K : PySem.W.Frag} {g : Gh}
theorem RepKV.any {kvs : List (Key × PV)} {ws : List (Key × V)} (r : RepKV K g kvs ws) (k : Key) : (kvs.any fun kv => decide (kv.1 = k)) = ws.any fun kv => decide (kv.1 = k) := by
  induction r with
  | nil => rfl
  | cons h t ih => rw [List.any_cons, List.any_cons, ih, h.1]
theorem RepKV.val {kvs : List (Key × PV)} {ws : List (Key × V)} (r : RepKV K g kvs ws) {k : Key} {v : PV} (h : valP kvs k = some v) : ∃ w, valV ws k = some w ∧ RepV K g v w := by
  induction r with
  | nil => cases h
  | @cons p q ps qs hh t ih =>
    unfold valP at h
    rw [List.find?_cons] at h
    by_cases e : p.1 = k
    · simp only [e, decide_true, Option.map_some] at h
      cases h
      exact ⟨q.2, valV_pos (by rw [← hh.1]; exact e), hh.2⟩
    · simp only [e, decide_false] at h
      obtain ⟨w, h1, h2⟩ := ih h
      exact ⟨w, by rw [valV_neg (by rw [← hh.1]; exact e)]; exact h1, h2⟩
theorem RepKV.repl {kvs : List (Key × PV)} {ws : List (Key × V)} (r : RepKV K g kvs ws) (k : Key) {v : PV} {w : V} (rv : RepV K g v w) :
    RepKV K g (kvs.map fun kv => if kv.1 = k then (kv.1, v) else kv) (ws.map fun kv => if kv.1 = k then (kv.1, w) else kv) := by
  induction r with
  | nil => exact .nil
  | @cons p q ps qs hh t ih =>
    rw [List.map_cons, List.map_cons]
    refine .cons ?_ ih
    by_cases e : p.1 = k
    · rw [if_pos e, if_pos (by rw [← hh.1]; exact e)]
      exact ⟨hh.1, rv⟩
    · rw [if_neg e, if_neg (by rw [← hh.1]; exact e)]
      exact hh
theorem RepKV.snoc {kvs : List (Key × PV)} {ws : List (Key × V)} (r : RepKV K g kvs ws) (k : Key) {v : PV} {w : V} (rv : RepV K g v w) : RepKV K g (kvs ++ [(k, v)]) (ws ++ [(k, w)]) := by
  induction r with
  | nil => exact .cons ⟨rfl, rv⟩ .nil
  | @cons p q ps qs hh t ih => exact .cons hh ih
theorem RepKV.put {kvs : List (Key × PV)} {ws : List (Key × V)} (r : RepKV K g kvs ws) (k : Key) {v : PV} {w : V} (rv : RepV K g v w) : RepKV K g (putP kvs k v) (putK ws k w) := by
  unfold putP putK
  rw [r.any k]
  split
  · exact r.repl k rv
  · exact r.snoc k rv
theorem RepKV.length {kvs : List (Key × PV)} {ws : List (Key × V)} (r : RepKV K g kvs ws) : kvs.length = ws.length := Paired.length r
theorem keyP_rep {a : PV} {x : V} {k : Key} (r : RepV K g a x) (h : keyP a = some k) : x = kV k := by
  cases a with
  | int i => cases h; exact r
  | str z => cases h; exact r
  | _ => cases h
end
def vSet : PV → PV → PV → Sto → Option Sto := fun o i v S => match o with
  | .ref n => match S[n]?, i with
    | some (.lst xs), .int k => (ixN xs.length k).map fun j => S.set n (.lst (xs.set j v))
    | some (.dct kvs), i => (keyP i).bind fun k => if kvs.length < sizeLine then some (S.set n (.dct (putP kvs k v))) else none
    | _, _ => none
  | _ => none
def rVSet (X : Cx) : TSet := fun o i v H Q => ∃ g S a b c S', RepS X.K X.mp g S H ∧ RepV X.K g a o ∧ RepV X.K g b i ∧ RepV X.K g c v ∧ vSet a b c S = some S' ∧ ∀ H' g', g.le g' → RepS X.K X.mp g' S' H' → Q H'
section
variable {X : Cx}
theorem set_any (hu : X.A.units + 1 < cLine) : PSet X (rVSet X) := by
  intro pins s σ H o i v ov iv u Q I ro ri rv ⟨g, S, a, b, c, S', hS, r1, r2, r3, e, k⟩
  cases a with
  | ref n =>
    obtain ⟨p, ex, em⟩ := r1
    subst ex
    obtain ⟨so, h2⟩ := hS.at_ em
    have q := hS.ob n so p h2 em
    unfold vSet at e
    simp only [h2] at e
    cases so with
    | lst xs =>
      obtain ⟨vs, q1, q2⟩ := q
      cases b with
      | int z =>
        cases hj : ixN xs.length z with
        | none => simp only [hj] at e; cases e
        | some j =>
          simp only [hj] at e
          cases e
          exact set_list pins s σ H _ i v ov iv u Q I ro ri rv ⟨p, vs, z, j, rfl, r2, q1, by rw [← q2.length]; exact hj, k _ g (.refl _) (hS.put h2 (by intro z; cases z) em ⟨vs.set j v, upd_same, q2.set r3 j⟩)⟩
      | _ => cases e
    | dct kvs =>
      obtain ⟨ws, q1, q2⟩ := q
      have e' : ((keyP b).bind fun k => if kvs.length < sizeLine then some (S.set n (.dct (putP kvs k c))) else none) = some S' := by
        cases b <;> first | exact e | cases e
      cases hk : keyP b with
      | none => rw [hk] at e'; cases e'
      | some kk =>
        rw [hk] at e'
        have e2 : (if kvs.length < sizeLine then some (S.set n (.dct (putP kvs kk c))) else none) = some S' := e'
        split at e2
        · rename_i hl
          cases e2
          have ei := keyP_rep r2 hk
          subst ei
          exact set_dict hu pins s σ H _ _ v ov iv u Q I ro ri rv ⟨p, _, rfl, DPut.k q1 (by rw [← q2.length]; exact hl), k _ g (.refl _) (hS.put h2 (by intro z; cases z) em ⟨putK ws kk v, upd_same, q2.put kk r3⟩)⟩
        · cases e2
    | _ => cases e
  | _ => cases e
def ssSub (to ti te : Sx) : Ss := fun sp S => bindS (te sp S) sp fun v S1 => bindS (to sp S1) sp fun o S2 => bindS (ti sp S2) sp fun i S3 => match vSet o i v S3 with
  | some S4 => .nx sp S4
  | none => .stuck
variable {o i e : Expr} {to ti te : Sx} {pos pos' tpos : Pos}
theorem ss_sub (hu : X.A.units + 1 < cLine) (ho : PE X o (rdE X to)) (hi : PE X i (rdE X ti)) (he : PE X e (rdE X te)) (hs : swapsWithSole [.Subscript o i pos'] e pos.line X.env = pure false := by rfl) (hw : swappedStores [.Subscript o i pos'] e X.env = pure none := by rfl)
    (h1 : (assignEach [.Subscript o i pos'] X.env).map (·.2) = [assign (.Subscript o i pos') X.env] := by rfl)
    (ha : ∀ v, assign (.Subscript o i pos') X.env v = (do
      let ov ← holding [v] (eval o X.env)
      let iv ← holding [v, ov] (eval i X.env)
      standAt pos'
      holding [v, ov, iv] (setItem ov iv v)
      release [v, ov, iv] []) := by intro _; rfl) : PS X (.Assign [.Subscript o i pos'] e pos) (rdS X (ssSub to ti te)) := (ps_asg he (pg_sub ho hi (set_any hu) ha) hs hw h1).imp fun D σ H ⟨g, sp, S, hS, hE, p⟩ => by
  refine (rdE.sq hS hE p).mono fun v H1 ⟨a, g1, S1, l1, q1, e1, r1, p1⟩ => ?_
  refine (rdE.sq q1 e1 p1).mono fun x H2 ⟨b, g2, S2, l2, q2, e2, r2, p2⟩ => ?_
  refine (rdE.sq q2 e2 p2).mono fun y H3 ⟨c, g3, S3, l3, q3, e3, r3, p3⟩ => ?_
  cases h : vSet b c a S3 with
  | none => simp only [h] at p3; exact (show False from p3).elim
  | some S4 =>
    simp only [h] at p3
    exact ⟨g3, S3, b, c, a, S4, q3, RepV.mono l3 _ _ r2, r3, RepV.mono (l2.trans l3) _ _ r1, h, fun H' g' l q => p3 σ H' g' l q (e3.mono l)⟩
/-- xs[i] op= e, xs a list of ints -/
def vItemL : V2 := fun a b S => match b with
  | .int i => (listOf S a).bind fun xs => (atI xs i).map fun x => (x, S)
  | _ => none
def ssAugSub (op : V2) (to ti te : Sx) : Ss := fun sp S => bindS (to sp S) sp fun o S1 => bindS (ti sp S1) sp fun i S2 => bindS (.of (vItemL o i S2)) sp fun x S3 => bindS (te sp S3) sp fun y S4 => bindS (.of (op x y S4)) sp fun z S5 => match vSet o i z S5 with
  | some S6 => .nx sp S6
  | none => .stuck
theorem PostO.imp {α β : Type} {g : Gh} {R : Gh → α → β → Prop} {o : Option (α × Sto)} {Q Q' : β → Hp → Prop} (h : PostO X g R o Q) (hQ : ∀ b H, Q b H → Q' b H) : PostO X g R o Q' := by
  cases o with
  | none => exact h
  | some p => exact fun b H g' l hS r => hQ b H (h b H g' l hS r)
/-- name op= e -/
def ssAug (k : Nat) (op : V2) (te : Sx) : Ss := fun sp S => match sp[k]? with
  | some (some x) => bindS (te sp S) sp fun y S1 => bindS (.of (op x y S1)) sp fun z S2 => .nx (sp.set k (some z)) S2
  | _ => .stuck
end
def isL (S : Sto) (a : PV) : Bool := (listOf S a).isSome
abbrev VM := PV → List PV → Sto → Option (PV × Sto)
def rVM (X : Cx) (o : VM) : V → List V → Hp → VK → Prop := fun x xs H Q => ∃ g S a as, RepS X.K X.mp g S H ∧ RepV X.K g a x ∧ RepVs X.K g as xs ∧ PostO X g (RepV X.K) (o a as S) Q
/-- a method with arguments: chk tells the receiver's type -/
def sxMt (chk : Sto → PV → Bool) (o : VM) (ta : Sx) (tr : Sa) : Sx := fun sp S => (ta sp S).bind fun a S1 => if chk S1 a = true then (tr sp S1).bind fun as S2 => .of (o a as S2) else .stuck
def sxMt0 (chk : Sto → PV → Bool) (o : VM) (ta : Sx) : Sx := fun sp S => (ta sp S).bind fun a S1 => if chk S1 a = true then .of (o a [] S1) else .stuck
structure Chk (X : Cx) (T : String) (chk : Sto → PV → Bool) : Prop where
  ok : ∀ (g : Gh) (S : Sto) (H : Hp) (a : PV) (x : V), RepS X.K X.mp g S H → RepV X.K g a x → chk S a = true → tyV X.K T x H
theorem chk_list {X : Cx} : Chk X "list" isL := ⟨fun g S H a x hS r h => by
  unfold isL at h
  cases hl : listOf S a with
  | none => rw [hl] at h; cases h
  | some xs =>
    obtain ⟨l, vs, q1, q2, q3⟩ := hS.list r hl
    subst q1
    exact .inl ⟨rfl, vs, q2.sq⟩⟩
theorem RepS.dict {K : PySem.W.Frag} {mg : MP} {g : Gh} {S : Sto} {H : Hp} {n : Nat} {x : V} {kvs : List (Key × PV)} (hS : RepS K mg g S H) (r : RepV K g (.ref n) x) (h : S[n]? = some (.dct kvs)) : ∃ p ws, x = .ref p ∧ g.m[n]? = some p ∧ H p = some (.dK ws) ∧ RepKV K g kvs ws := by
  obtain ⟨p, e, em⟩ := r
  obtain ⟨ws, q1, q2⟩ := hS.ob n _ p h em
  exact ⟨p, ws, e, em, q1, q2⟩
section
variable {X : Cx} {o e : Expr} {es : List Expr} {to : Sx} {tr : Sa} {name : Str} {apos cpos : Pos} {T id : String} {chk : Sto → PV → Bool} {f : VM}
theorem se_mt (pa : PlainAttrs T) (slot : Slot T name id) (hty : typeOf (.builtin id) = pure (.type "method_descriptor")) (hm : MtR X id (rVM X f)) (ck : Chk X T chk) (ho : PE X o (rdE X to)) (ha : PA X (e :: es) (rdA X tr))
    (hbase : attributeBase o name X.env (eval o X.env) = eval o X.env := by rfl)
    (hfew : ((backTo cpos (starEach (e :: es) X.env)).all (fun x => !x.1) && (backToKw cpos (keywordEach [] X.env)).all (fun x => x.1.isSome)
      && decide ((e :: es).length + ([] : List Keyword).length + (if ([] : List Keyword).isEmpty then 0 else 1) < 30)) = true := by rfl)
    (hline : (apos.endLine == cpos.line) = true := by rfl) (hs : starEach (e :: es) X.env = (false, eval e X.env) :: starEach es X.env := by rfl) (hplain : (backTo cpos (starEach es X.env)).any (·.1) = false := by rfl) :
    PE X (.Call (.Attribute o name apos) (e :: es) [] cpos) (rdE X (sxMt chk f to tr)) := (pe_bm pa slot hty hm ho ha hbase hfew hline hs hplain).imp fun σ H Q ⟨g, sp, S, hS, hE, p⟩ => by
  refine (rdE.fst hS hE p).mono fun x H1 ⟨a, g1, S1, l1, q1, e1, r1, p1⟩ => ?_
  split at p1
  · rename_i hc
    refine ⟨ck.ok g1 S1 H1 a x q1 r1 hc, (rdA.fst q1 e1 p1).mono fun xs H2 ⟨as, g2, S2, l2, q2, e2, r2, p2⟩ => ?_⟩
    exact ⟨g2, S2, a, as, q2, RepV.mono l2 _ _ r1, r2, Post.of p2⟩
  · exact p1.elim
end
def vAppend : VM := fun a as S => match a, as with
  | .ref n, [v] => match S[n]? with
    | some (.lst xs) => if xs.length < sizeLine then some (.non, S.set n (.lst (xs ++ [v]))) else none
    | _ => none
  | _, _ => none
section
variable {X : Cx}
theorem mt_append' : MtR X "list.append" (rVM X vAppend) := by
  intro pins s σ H x xs v us Q I rx rs ⟨g, S, a, as, hS, r1, r2, p⟩
  unfold vAppend at p
  split at p
  · rename_i n w
    obtain ⟨y, rfl, ry⟩ := r2.one
    split at p
    · rename_i ys h2
      split at p
      · rename_i hl
        obtain ⟨q, ex, em⟩ := r1
        obtain ⟨vs, q1, q2⟩ := hS.ob n _ q h2 em
        refine mt_append pins s σ H x _ v us Q I rx rs ⟨q, vs, y, ex, rfl, q1, by rw [← q2.length]; exact hl, p _ _ g (.refl _) (hS.put h2 (by intro z; cases z) em ⟨vs ++ [y], upd_same, q2.append (.cons ry .nil)⟩) rfl⟩
      · exact p.elim
    · exact p.elim
  · exact p.elim
end
def vDItem : V2 := fun a b S => match a with
  | .ref n => match S[n]? with
    | some (.dct kvs) => (keyP b).bind fun k => (valP kvs k).map fun v => (v, S)
    | _ => none
  | _ => none
def saPairs : List (Sx × Sx) → Sl → Sto → Out (List (PV × PV))
  | [], _, S => .ok [] S
  | (tk, tv) :: r, sp, S => (tk sp S).bind fun k S1 => (tv sp S1).bind fun v S2 => (saPairs r sp S2).bind fun ps S3 => .ok ((k, v) :: ps) S3
def keysP : List (PV × PV) → Option (List (Key × PV))
  | [] => some []
  | (a, v) :: r => match keyP a, keysP r with
    | some k, some ks => some ((k, v) :: ks)
    | _, _ => none
def mergeP (kvs more : List (Key × PV)) : List (Key × PV) := more.foldl (fun acc kv => putP acc kv.1 kv.2) kvs
def sxDisp (ts : List (Sx × Sx)) : Sx := fun sp S => (saPairs ts sp S).pure fun ps S1 => match keysP ps with
  | some kvs => if kvs.length ≤ 15 then .ok (.ref S1.length) (S1 ++ [.dct (mergeP [] kvs)]) else .stuck
  | none => .stuck
section
variable {X : Cx} {o i : Expr} {to ti : Sx} {pos : Pos}
theorem se_dget (hu : X.A.units + 1 < cLine) (ho : PE X o (rdE X to)) (hi : PE X i (rdE X ti)) (hs : NoSl i := by exact fun _ _ => rfl) : PE X (.Subscript o i pos) (rdE X (sx2 vDItem to ti)) := (pe_dget hu ho hi hs).imp fun σ H Q h => by
  refine (rd2 h).mono fun x H1 k => rdE.mono k fun y H2 ⟨g, S, a, b, hS, r1, r2, p⟩ => ?_
  unfold vDItem at p
  split at p
  · split at p
    · rename_i n kvs h2
      cases hk : keyP b with
      | none => rw [hk] at p; exact p.elim
      | some k =>
        rw [hk] at p
        simp only [Option.bind] at p
        cases hv : valP kvs k with
        | none => rw [hv] at p; exact p.elim
        | some v =>
          rw [hv] at p
          obtain ⟨q, ws, e, em, q1, q2⟩ := hS.dict r1 h2
          subst e
          obtain ⟨w, h3, r3⟩ := q2.val hv
          have ey := keyP_rep r2 hk
          subst ey
          exact ⟨q, w, rfl, by rw [← h3]; exact DGet.k q1, p.now hS r3⟩
    · exact p.elim
  · exact p.elim
abbrev RepPs (K : PySem.W.Frag) (g : Gh) : List (PV × PV) → List (V × V) → Prop := Paired fun p q => RepV K g p.1 q.1 ∧ RepV K g p.2 q.2
theorem RepPs.mono {K : PySem.W.Frag} {g g' : Gh} (l : g.le g') {xs : List (PV × PV)} {ws : List (V × V)} (h : RepPs K g xs ws) : RepPs K g' xs ws := Paired.mapP h fun _ _ q => ⟨RepV.mono l _ _ q.1, RepV.mono l _ _ q.2⟩
theorem rdPairs : ∀ (ts : List (Sx × Sx)) {σ : L2.St} {H : Hp} {Q : List (V × V) → Hp → Prop} {g : Gh} {sp : Sl} {S : Sto}, RepS X.K X.mp g S H → RepE X.K g sp σ → Post X g (RepPs X.K) (ExcT X g sp) (saPairs ts sp S) Q → tPairs (ts.map fun t => (rdE X t.1, rdE X t.2)) σ H Q
  | [], σ, H, Q, g, sp, S, hS, hE, p => p [] H g (.refl _) hS .nil
  | (tk, tv) :: ts, σ, H, Q, g, sp, S, hS, hE, p => by
    refine (rdE.fst hS hE (show Post X g (RepPs X.K) (ExcT X g sp) ((tk sp S).bind _) Q from p)).mono fun x H1 ⟨a, g1, S1, l1, q1, e1, r1, p1⟩ => ?_
    refine (rdE.fst q1 e1 p1).mono fun y H2 ⟨b, g2, S2, l2, q2, e2, r2, p2⟩ => ?_
    refine rdPairs ts q2 e2 ((Post.seq (R := RepPs X.K) p2).imp (fun _ _ x => x) fun ps H3 ⟨c, g3, S3, l3, q3, r3, p3⟩ => ?_)
    exact p3 _ H3 g3 (.refl _) q3 (.cons ⟨RepV.mono (l2.trans l3) _ _ r1, RepV.mono l3 _ _ r2⟩ r3)
theorem keysP_rep {K : PySem.W.Frag} {g : Gh} : ∀ {ps : List (PV × PV)} {ws : List (V × V)} {kvs : List (Key × PV)}, RepPs K g ps ws → keysP ps = some kvs → ∃ rs : List (Key × V), ws = rs.map (fun kv => (kV kv.1, kv.2)) ∧ RepKV K g kvs rs
  | [], _, _, .nil, h => by cases h; exact ⟨[], rfl, .nil⟩
  | (a, v) :: ps, _, kvs, .cons (b := b) hh t, h => by
    have h' : (match keyP a, keysP ps with
      | some k, some ks => some ((k, v) :: ks)
      | _, _ => none) = some kvs := h
    cases q1 : keyP a with
    | none => rw [q1] at h'; cases h'
    | some k =>
      cases q2 : keysP ps with
      | none => rw [q1, q2] at h'; cases h'
      | some ks =>
        rw [q1, q2] at h'; cases h'
        obtain ⟨rs, e, r⟩ := keysP_rep t q2
        have e1 := keyP_rep hh.1 q1
        refine ⟨(k, b.2) :: rs, ?_, .cons ⟨rfl, hh.2⟩ r⟩
        rw [List.map_cons, ← e, ← e1]
theorem merge_rep {K : PySem.W.Frag} {g : Gh} : ∀ {more : List (Key × PV)} {rs : List (Key × V)} {kvs : List (Key × PV)} {ws : List (Key × V)}, RepKV K g more rs → RepKV K g kvs ws → RepKV K g (mergeP kvs more) (mergeK ws rs) := by
  intro more rs kvs ws r
  induction r generalizing kvs ws with
  | nil => intro q; exact q
  | @cons p q ps qs h t ih =>
    intro r0
    have e : RepKV K g (putP kvs p.1 p.2) (putK ws q.1 q.2) := by
      have := r0.put p.1 h.2
      rw [← h.1]; exact this
    exact ih e
theorem se_disp {keys : List (Option Expr)} {values : List Expr} {ts : List (Sx × Sx)} (h : PPs X pos keys values (ts.map fun t => (rdE X t.1, rdE X t.2))) (hall : keys.all (·.isSome) = true := by rfl) (hl : keys.length = values.length := by rfl) (h0 : keys ≠ [] := by exact fun z => by cases z)
    (h15 : keys.length ≤ 15 := by decide) : PE X (.Dict keys values pos) (rdE X (sxDisp ts)) := (pe_disp h hall hl h0 h15).imp fun σ H Q ⟨g, sp, S, hS, hE, p⟩ => by
  intro D hD
  have D0 : g.rs D = none := by
    cases e : g.rs D with
    | none => rfl
    | some u => rw [(hS.rs D u e).1] at hD; cases hD
  have h1 := hS.reserve (o := .dK []) hD
  have lv : g.lv { g with rs := upd g.rs D (.dK []) } := ⟨fun _ _ e => e, fun _ _ e => e⟩
  refine rdPairs ts h1 (hE.monoV lv) ?_
  unfold sxDisp at p
  cases hps : saPairs ts sp S with
  | stuck => rw [hps] at p; exact p.elim
  | exc x S1 => rw [hps] at p; exact p.elim
  | ok ps S1 =>
    rw [hps] at p
    intro ws H2 g2 l2 q2 r2
    have gD : g2.rs D = some (.dK []) := by rw [l2.rs]; exact upd_same
    refine ⟨(q2.rs D _ gD).1, ?_⟩
    have p : Post X g (RepV X.K) (ExcT X g sp) (match keysP ps with
      | some kvs => if kvs.length ≤ 15 then Out.ok (PV.ref S1.length) (S1 ++ [SO.dct (mergeP [] kvs)]) else .stuck
      | none => .stuck) Q := p
    cases hk : keysP ps with
    | none => rw [hk] at p; exact p.elim
    | some kvs =>
      rw [hk] at p
      simp only at p
      obtain ⟨rs, e, r⟩ := keysP_rep r2 hk
      split at p
      · rename_i h15'
        refine ⟨rs, e, by rw [← r.length]; exact h15', ?_⟩
        have q3 := q2.rekeep (o' := .dK (mergeK [] rs)) gD ⟨fun _ z => (by cases z), fun _ z => (by cases z)⟩
        have lv3 : g2.lv { g2 with rs := upd g2.rs D (.dK (mergeK [] rs)) } := ⟨fun _ _ e => e, fun _ _ e => e⟩
        have gD3 : ({ g2 with rs := upd g2.rs D (.dK (mergeK [] rs)) } : Gh).rs D = some (.dK (mergeK [] rs)) := upd_same
        obtain ⟨q4, l4⟩ := q3.letIn (so := .dct (mergeP [] kvs)) (r0 := g.rs) gD3 (fun a u e => by
          have ha : a ≠ D := fun z => by rw [z, D0] at e; cases e
          refine ⟨ha, ?_⟩
          show upd g2.rs D _ a = _
          rw [upd_ne ha, l2.rs]
          show upd g.rs D _ a = _
          rw [upd_ne ha]; exact e) ⟨mergeK [] rs, upd_same, (merge_rep (r.monoV lv3) .nil)⟩
        refine p (.ref D) _ _ ⟨fun a o e => (lv.trans (l2.lv.trans (lv3.trans l4))).fz a o e, fun j a e => (lv.trans (l2.lv.trans (lv3.trans l4))).m j a e, rfl, ?_⟩ q4 ⟨D, rfl, ?_⟩
        · exact l2.tb
        · show (g2.m ++ [D])[S1.length]? = some D
          rw [← q2.len]; simp
      · exact p.elim
end
end MX
end
section
namespace MX
open PySem PySem.Spec PyProof.Rows L2
mutual
/-- data read from a heap; no dict of it is the table of modules -/
inductive RdN (h : Heap) : Value → PyData → Prop
  | nn : RdN h .none .none
  | bb (b : Bool) : RdN h (.bool b) (.bool b)
  | ii (i : Int) (t : Tok) : RdN h (.int i t) (.int i)
  | ss (x : Str) (t : Tok) : RdN h (.str x t) (.str x)
  | ll {a : Addr} {o : Obj} {vs : Array Value} {n : Nat} {xs : List PyData} (h1 : h.get? a = some o) (h2 : o.cls = .type "list") (h3 : o.data = .seq vs n) (h4 : RdNs h vs.toList xs) : RdN h (.ref a) (.list xs)
  | tt {a : Addr} {o : Obj} {vs : Array Value} {n : Nat} {xs : List PyData} (h1 : h.get? a = some o) (h2 : o.cls = .type "tuple") (h3 : o.data = .seq vs n) (h4 : RdNs h vs.toList xs) : RdN h (.ref a) (.tuple xs)
  | dd {a : Addr} {o : Obj} {es : Array DictEntry} {n : Nat} {kvs : List (PyData × PyData)} (h1 : h.get? a = some o) (h2 : o.cls = .type "dict") (h3 : o.data = .dict es n) (h4 : RdNs h (es.toList.map (·.key)) (kvs.map (·.1)))
      (h5 : RdNs h (es.toList.map (·.val)) (kvs.map (·.2))) (h6 : (a == sysModules) = false) : RdN h (.ref a) (.dict kvs)
inductive RdNs (h : Heap) : List Value → List PyData → Prop
  | nil : RdNs h [] []
  | cons {v : Value} {vs : List Value} {d : PyData} {ds : List PyData} (h1 : RdN h v d) (h2 : RdNs h vs ds) : RdNs h (v :: vs) (d :: ds)
end
mutual
theorem RdN.reads {h : Heap} : ∀ {v : Value} {d : PyData}, RdN h v d → ∃ as, Reads h v d as
  | _, _, .nn => ⟨_, .none⟩
  | _, _, .bb b => ⟨_, .bool b⟩
  | _, _, .ii i t => ⟨_, .int i t⟩
  | _, _, .ss x t => ⟨_, .str x t⟩
  | _, _, .ll h1 h2 h3 h4 => h4.reads.elim fun _ r => ⟨_, .list h1 h2 h3 r⟩
  | _, _, .tt h1 h2 h3 h4 => h4.reads.elim fun _ r => ⟨_, .tuple h1 h2 h3 r⟩
  | _, _, .dd h1 h2 h3 h4 h5 _ => h4.reads.elim fun _ r => h5.reads.elim fun _ q => ⟨_, .dict h1 h2 h3 r q⟩
theorem RdNs.reads {h : Heap} : ∀ {vs : List Value} {ds : List PyData}, RdNs h vs ds → ∃ as, ReadsAll h vs ds as
  | _, _, .nil => ⟨_, .nil⟩
  | _, _, .cons h1 h2 => h1.reads.elim fun _ r => h2.reads.elim fun _ q => ⟨_, .cons r q⟩
end
section
variable {prog : Program} {w : World} {h₀ : Heap}
mutual
theorem RdN.shows : ∀ {v : Value} {d : PyData}, RdN h₀ v d → d.showable = true → d.shown.length ≤ sizeLine → ∃ bs, ReadAtMost h₀ d.depth bs ∧ ReprK prog w bs h₀ d.depth v d.shown
  | _, _, .nn, _, _ => ⟨[], (fun _ z => by cases z), by simp only [PyData.shown]; exact .of_is .none _ _ _⟩
  | _, _, .bb b, _, _ => ⟨[], (fun _ z => by cases z), by simp only [PyData.shown]; exact .of_is (.bool b) _ _ _⟩
  | _, _, .ii i t, q, _ => ⟨[], (fun _ z => by cases z), by simp only [PyData.shown]; exact .of_is (.int t (by simpa [PyData.showable] using q)) _ _ _⟩
  | _, _, .ss x t, _, z => ⟨[], (fun _ z => by cases z), by simp only [PyData.shown]; exact .of_is (.str x t (by simpa only [PyData.shown] using z)) _ _ _⟩
  | _, _, .ll (a := a) (vs := vs) (xs := xs) h1 h2 h3 h4, q, z => by
    have z1 : (listText (PyData.shownAll xs)).length ≤ sizeLine := by rw [PyData.shown] at z; exact z
    obtain ⟨bs, b1, b2⟩ := h4.shows (by simpa [PyData.showable] using q) (fun t ht => Nat.le_trans (listText_mem_le ht) z1)
    obtain ⟨as, r⟩ := (RdN.ll h1 h2 h3 h4).reads
    have na : a ∉ bs := not_mem_of_deeper r (by simp only [PyData.depth]; omega) b1
    refine ⟨a :: bs, .cons r (by simp only [PyData.depth]; omega) b1, ?_⟩
    simp only [PyData.depth, PyData.shown]
    obtain ⟨l⟩ := vs
    cases l with
    | nil =>
      have e : RdNs h₀ [] xs := h4
      cases e
      simp only [PyData.shownAll, listText_nil]
      exact ReprK.listEmpty h1 h2 h3
    | cons x l => exact ReprK.list h1 h2 h3 na (by simpa using b2.length_eq) fun i y e => b2.item i y (by simpa using e)
  | _, _, .tt (a := a) (xs := xs) h1 h2 h3 h4, q, z => by
    have z1 : (tupleText (PyData.shownAll xs)).length ≤ sizeLine := by rw [PyData.shown] at z; exact z
    obtain ⟨bs, b1, b2⟩ := h4.shows (by simpa [PyData.showable] using q) (fun t ht => Nat.le_trans (tupleText_mem_le ht) z1)
    obtain ⟨as, r⟩ := (RdN.tt h1 h2 h3 h4).reads
    refine ⟨a :: bs, .cons r (by simp only [PyData.depth]; omega) b1, ?_⟩
    simp only [PyData.depth, PyData.shown]
    exact ReprK.tuple h1 h2 h3 (not_mem_of_deeper r (by simp only [PyData.depth]; omega) b1) b2
  | _, _, .dd (a := a) (es := es) (kvs := kvs) h1 h2 h3 h4 h5 h6, q, z => by
    have z1 : (dictText (PyData.shownKv kvs)).length ≤ sizeLine := by rw [PyData.shown] at z; exact z
    obtain ⟨q1, q2⟩ := PyData.showableKv_split kvs (by simpa [PyData.showable] using q)
    obtain ⟨b1, p1, k1⟩ := h4.shows q1 fun t ht => (PyData.shownKv_key_le kvs t ht).elim fun p hp => Nat.le_trans hp.2 (Nat.le_trans (dictText_mem_le hp.1) z1)
    obtain ⟨b2, p2, k2⟩ := h5.shows q2 fun t ht => (PyData.shownKv_val_le kvs t ht).elim fun p hp => Nat.le_trans hp.2 (Nat.le_trans (dictText_mem_le hp.1) z1)
    obtain ⟨as, r⟩ := (RdN.dd h1 h2 h3 h4 h5 h6).reads
    have pp : ReadAtMost h₀ (PyData.depthKv kvs) (b1 ++ b2) := .append (p1.mono (PyData.depthAll_keys_le kvs)) (p2.mono (PyData.depthAll_vals_le kvs))
    refine ⟨a :: (b1 ++ b2), .cons r (by simp only [PyData.depth]; omega) pp, ?_⟩
    simp only [PyData.depth, PyData.shown, PyData.shownKv_eq]
    refine ReprK.dict h1 h2 h3 h6 (not_mem_of_deeper r (by simp only [PyData.depth]; omega) pp) (.of_two es.toList _ _ (k1.more_le (fun b hb => ?_) (PyData.depthAll_keys_le kvs)) (k2.more_le (fun b hb => ?_) (PyData.depthAll_vals_le kvs)))
    · exact List.mem_append.mpr (.inl hb)
    · exact List.mem_append.mpr (.inr hb)
theorem RdNs.shows : ∀ {vs : List Value} {ds : List PyData}, RdNs h₀ vs ds → PyData.showableAll ds = true → (∀ t ∈ PyData.shownAll ds, t.length ≤ sizeLine) → ∃ bs, ReadAtMost h₀ (PyData.depthAll ds) bs ∧ ReprAllK prog w bs h₀ (PyData.depthAll ds) vs (PyData.shownAll ds)
  | _, _, .nil, _, _ => ⟨[], (fun _ z => by cases z), by simp only [PyData.shownAll]; exact .nil⟩
  | _, _, .cons (d := d) (ds := ds) h1 h2, q, z => by
    have q1 : d.showable = true ∧ PyData.showableAll ds = true := by rw [PyData.showableAll, Bool.and_eq_true] at q; exact q
    obtain ⟨b1, p1, k1⟩ := h1.shows q1.1 (z _ (by rw [PyData.shownAll]; exact .head _))
    obtain ⟨b2, p2, k2⟩ := h2.shows q1.2 fun t ht => z t (by rw [PyData.shownAll]; exact .tail _ ht)
    refine ⟨b1 ++ b2, fun b hm => ?_, ?_⟩
    · rw [PyData.depthAll]
      rcases List.mem_append.mp hm with hm | hm
      · exact (p1 b hm).elim fun d1 ⟨as, r, l⟩ => ⟨d1, as, r, by omega⟩
      · exact (p2 b hm).elim fun d1 ⟨as, r, l⟩ => ⟨d1, as, r, by omega⟩
    · rw [PyData.depthAll, PyData.shownAll]
      exact .cons ((k1.more fun b hb => List.mem_append.mpr (.inl hb)).level_le (by omega)) (k2.more_le (fun b hb => List.mem_append.mpr (.inr hb)) (by omega))
end
/-- repr of what is read -/
theorem repr_n {A : Around} {E : Value → Shared → Prop} {s : Shared} {v : Value} {d : PyData} {Q : Value → Shared → Prop} (r : RdN s.heap v d) (hs : d.showable = true) (hg : A.guards = some []) (hu : A.units + (d.depth + 1) < cLine)
    (hsz : d.shown.length ≤ sizeLine) (hQ : ∀ h' u tk, (∀ b o, s.heap.get? b = some o → h'.get? b = some o) → Q (.str d.shown u) { s with heap := h', toks := tk }) : wpAny (model prog w) A (call (.builtin "repr") [v]) Q E s := by
  have k0 : ∀ b o, s.heap.get? b = some o → s.heap.get? b = some o := fun _ _ e => e
  cases r with
  | nn => simp only [PyData.shown] at hQ; exact PySem.P.repr_of_none (hQ s.heap _ _ k0)
  | bb b => simp only [PyData.shown] at hQ; exact PySem.P.repr_of_bool (hQ s.heap _ _ k0)
  | ii i t => simp only [PyData.shown] at hQ; exact PySem.P.repr_of_int (by simpa [PyData.showable] using hs) (hQ s.heap _ _ k0)
  | ss x t => simp only [PyData.shown] at hQ hsz; exact PySem.P.repr_of_str (hQ s.heap _ _ k0) hsz
  | ll h1 h2 h3 h4 =>
    rename_i a o vs n xs
    have z1 : (listText (PyData.shownAll xs)).length ≤ sizeLine := by rw [PyData.shown] at hsz; exact hsz
    obtain ⟨bs, b1, b2⟩ := h4.shows (prog := prog) (w := w) (by simpa [PyData.showable] using hs) (fun t ht => Nat.le_trans (listText_mem_le ht) z1)
    obtain ⟨as, r⟩ := (RdN.ll h1 h2 h3 h4).reads
    have na : a ∉ bs := not_mem_of_deeper r (by simp only [PyData.depth]; omega) b1
    simp only [PyData.depth, PyData.shown] at hu hQ
    refine call_repr_slot (by omega) ⟨o, h1, h2⟩ F.slot_list_repr.toG ?_
    obtain ⟨l⟩ := vs
    cases l with
    | nil =>
      have e : RdNs s.heap [] xs := h4
      cases e
      simp only [PyData.shownAll, listText_nil] at hQ
      exact call_list_repr_empty ⟨o, h1, h2⟩ h1 h3 ⟨_, _, rfl, hQ s.heap _ _ k0⟩
    | cons x l =>
      exact call_list_reprK h1 h2 h3 na (by simpa using b2.length_eq) (fun i y e => b2.item i y (by simpa using e)) hg (fun b _ => .nil b) (by show A.units + 1 + (_ + 1) < cLine; omega) k0 (fun h' u tk hk => ⟨_, _, rfl, hQ h' u tk hk⟩) z1
  | tt h1 h2 h3 h4 =>
    rename_i a o vs n xs
    have z1 : (tupleText (PyData.shownAll xs)).length ≤ sizeLine := by rw [PyData.shown] at hsz; exact hsz
    obtain ⟨bs, b1, b2⟩ := h4.shows (prog := prog) (w := w) (by simpa [PyData.showable] using hs) (fun t ht => Nat.le_trans (tupleText_mem_le ht) z1)
    obtain ⟨as, r⟩ := (RdN.tt h1 h2 h3 h4).reads
    have na : a ∉ bs := not_mem_of_deeper r (by simp only [PyData.depth]; omega) b1
    simp only [PyData.depth, PyData.shown] at hu hQ
    refine call_repr_slot (by omega) ⟨o, h1, h2⟩ F.slot_tuple_repr ?_
    exact call_tuple_reprK h1 h2 h3 na b2 hg (fun b _ => .nil b) (by show A.units + 1 + (_ + 1) < cLine; omega) k0 (fun h' u tk hk => ⟨_, _, rfl, hQ h' u tk hk⟩) z1
  | dd h1 h2 h3 h4 h5 h6 =>
    rename_i a o es n kvs
    have z1 : (dictText (PyData.shownKv kvs)).length ≤ sizeLine := by rw [PyData.shown] at hsz; exact hsz
    obtain ⟨q1, q2⟩ := PyData.showableKv_split kvs (by simpa [PyData.showable] using hs)
    obtain ⟨b1, p1, k1⟩ := h4.shows (prog := prog) (w := w) q1 fun t ht => (PyData.shownKv_key_le kvs t ht).elim fun p hp => Nat.le_trans hp.2 (Nat.le_trans (dictText_mem_le hp.1) z1)
    obtain ⟨b2, p2, k2⟩ := h5.shows (prog := prog) (w := w) q2 fun t ht => (PyData.shownKv_val_le kvs t ht).elim fun p hp => Nat.le_trans hp.2 (Nat.le_trans (dictText_mem_le hp.1) z1)
    obtain ⟨as, r⟩ := (RdN.dd h1 h2 h3 h4 h5 h6).reads
    have pp : ReadAtMost s.heap (PyData.depthKv kvs) (b1 ++ b2) := .append (p1.mono (PyData.depthAll_keys_le kvs)) (p2.mono (PyData.depthAll_vals_le kvs))
    have na : a ∉ b1 ++ b2 := not_mem_of_deeper r (by simp only [PyData.depth]; omega) pp
    simp only [PyData.depth, PyData.shown, PyData.shownKv_eq] at hu hQ z1
    refine call_repr_slot (by omega) ⟨o, h1, h2⟩ F.slot_dict_repr ?_
    refine call_dict_reprK h1 h2 h3 h6 na (.of_two es.toList _ _ (k1.more_le (fun b hb => ?_) (PyData.depthAll_keys_le kvs)) (k2.more_le (fun b hb => ?_) (PyData.depthAll_vals_le kvs))) hg (fun b _ => .nil b) (by show A.units + 1 + (_ + 1) < cLine; omega) k0 (fun h' u tk hk => ⟨_, _, rfl, hQ h' u tk hk⟩) z1
    · exact List.mem_append.mpr (.inl hb)
    · exact List.mem_append.mpr (.inr hb)
end
def keyD : Key → PyData
  | .inl i => .int i
  | .inr x => .str x
mutual
def toR : PV → Option PyData
  | .non => some .none
  | .bl b => some (.bool b)
  | .int i => some (.int i)
  | .str x => some (.str x)
  | .tup xs => (toRs xs).map PyData.tuple
  | .lst xs => (toRs xs).map PyData.list
  | .ref _ => none
  | .adr _ _ _ => none
  | .dic ks xs => if ks.length = xs.length then (toRs xs).map fun ds => PyData.dict ((ks.map keyD).zip ds) else none
def toRs : List PV → Option (List PyData)
  | [] => some []
  | x :: xs => match toR x, toRs xs with
    | some d, some ds => some (d :: ds)
    | _, _ => none
end
/-- data, a list of the store read -/
def rOf (S : Sto) : PV → Option PyData
  | .ref n => match S[n]? with
    | some (.lst xs) => (toRs xs).map PyData.list
    | _ => none
  | v => toR v
mutual
theorem toD_toR : ∀ (x : PV) (d : PyData), toD x = some d → toR x = some d
  | .non, _, h => h
  | .bl _, _, h => h
  | .int _, _, h => h
  | .str _, _, h => h
  | .tup xs, d, h => by
    have h' : (toDs xs).map PyData.tuple = some d := h
    cases q : toDs xs with
    | none => rw [q] at h'; cases h'
    | some ds => rw [q] at h'; cases h'; simp only [toR, toDs_toRs xs ds q]; rfl
  | .lst xs, d, h => by
    have h' : (toDs xs).map PyData.list = some d := h
    cases q : toDs xs with
    | none => rw [q] at h'; cases h'
    | some ds => rw [q] at h'; cases h'; simp only [toR, toDs_toRs xs ds q]; rfl
  | .dic _ _, _, h => by cases h
  | .ref _, _, h => by cases h
  | .adr _ _ _, _, h => by cases h
theorem toDs_toRs : ∀ (xs : List PV) (ds : List PyData), toDs xs = some ds → toRs xs = some ds
  | [], _, h => h
  | x :: xs, ds, h => by
    have h' : (match toD x, toDs xs with
      | some d, some ds => some (d :: ds)
      | _, _ => none) = some ds := h
    cases q1 : toD x with
    | none => rw [q1] at h'; cases h'
    | some d =>
      cases q2 : toDs xs with
      | none => rw [q1, q2] at h'; cases h'
      | some ds' => rw [q1, q2] at h'; cases h'; simp only [toRs, toD_toR x d q1, toDs_toRs xs ds' q2]
end
theorem kv_reads {P : Program} {w : World} {h : Heap} : ∀ {ks : List Key} {vs : List V} {ws : List (Key × Value)} {es : List DictEntry} {ds : List PyData}, ks.length = vs.length → KV (ks.zip vs) ws → Pairs (mixKind P w) es ws → (∀ us, Vals vs us → RdNs h us ds) →
    RdNs h (es.map (·.key)) (((ks.map keyD).zip ds).map (·.1)) ∧ RdNs h (es.map (·.val)) (((ks.map keyD).zip ds).map (·.2))
  | [], vs, ws, es, ds, l, r, p, f => by
    cases vs with
    | cons _ _ => cases l
    | nil =>
      cases r
      cases p
      cases f [] .nil
      exact ⟨.nil, .nil⟩
  | k :: ks, vs, ws, es, ds, l, r, p, f => by
    cases vs with
    | nil => cases l
    | cons v vs =>
      cases r with
      | cons r1 r2 =>
        rename_i q qs
        cases p with
        | cons p1 p2 p3 =>
          rename_i e es
          obtain ⟨us, hus⟩ : ∃ us, Vals vs us := ⟨qs.map (·.2), by
            have : ∀ {ks : List Key} {vs : List V} {ws : List (Key × Value)}, ks.length = vs.length → KV (ks.zip vs) ws → Vals vs (ws.map (·.2)) := by
              intro ks
              induction ks with
              | nil => intro vs ws l r; cases vs with
                | nil => cases r; exact .nil
                | cons _ _ => cases l
              | cons k ks ih => intro vs ws l r; cases vs with
                | nil => cases l
                | cons v vs => cases r with
                  | cons r1 r2 => exact .cons r1.2 (ih (by simpa using l) r2)
            exact this (by simpa using l) r2⟩
          have f1 := f (q.2 :: us) (.cons r1.2 hus)
          cases f1 with
          | cons g1 g2 =>
            rename_i d ds
            obtain ⟨a1, a2⟩ := kv_reads (h := h) (ds := ds) (by simpa using l) r2 p3 fun us' hu => by
              have f2 := f (q.2 :: us') (.cons r1.2 hu)
              cases f2 with
              | cons _ g => exact g
            have ek : keyIs k e.key = true := by rw [show k = q.1 from r1.1]; exact p1
            have hk : RdN h e.key (keyD k) := by
              rcases keyIs_shape ek with ⟨i, t, e1, e2⟩ | ⟨x, t, e1, e2⟩
              · rw [e1, e2]; exact .ii i t
              · rw [e1, e2]; exact .ss x t
            have hv : RdN h e.val d := by rw [p2]; exact g1
            exact ⟨.cons hk a1, .cons hv a2⟩
section
variable {X : Cx} {pins : List (Addr × Obj)} {σ : L2.St} {s : Shared} {mg : MP} {g : Gh} {S : Sto} {H : Hp}
mutual
theorem toR_rep (I : Inv X pins σ H s) (hf : ∀ a o, g.fz a = some o → H a = some o) : ∀ (a : PV) (x : V) (d : PyData) (u : Value), RepV X.K g a x → toR a = some d → RelV x u → RdN s.heap u d
  | .non, _, _, _, r, h, ru => by cases (show _ = V.non from r); cases (show some _ = some _ from h); cases ru; exact .nn
  | .bl b, _, _, _, r, h, ru => by cases (show _ = V.bl b from r); cases (show some _ = some _ from h); cases ru; exact .bb b
  | .int i, _, _, _, r, h, ru => by cases (show _ = V.int i from r); cases (show some _ = some _ from h); obtain ⟨t, rfl⟩ := ru; exact .ii i t
  | .str z, _, _, _, r, h, ru => by cases (show _ = V.str z from r); cases (show some _ = some _ from h); obtain ⟨t, rfl⟩ := ru; exact .ss z t
  | .tup xs, _, d, _, r, h, ru => by
    obtain ⟨p, vs, rfl, h1, h2⟩ := r
    have h' : (toRs xs).map PyData.tuple = some d := h
    cases q : toRs xs with
    | none => rw [q] at h'; cases h'
    | some ds =>
      rw [q] at h'; cases h'
      cases ru
      obtain ⟨its, rv, ⟨o, ho, hc, n, hd⟩, _⟩ := I.tuple (TpQ.t hf h1)
      exact .tt ho hc hd (toRs_rep I hf xs vs ds _ h2 q rv)
  | .lst xs, _, d, _, r, h, ru => by
    obtain ⟨p, vs, rfl, h1, h2⟩ := r
    have h' : (toRs xs).map PyData.list = some d := h
    cases q : toRs xs with
    | none => rw [q] at h'; cases h'
    | some ds =>
      rw [q] at h'; cases h'
      cases ru
      obtain ⟨its, rv, ⟨o, n, ho, hc, _, hd⟩, _⟩ := I.list (LsQ.mono hf h1).sq
      exact .ll ho hc hd (toRs_rep I hf xs vs ds _ h2 q rv)
  | .dic ks xs, _, d, _, r, h, ru => by
    obtain ⟨p, vs, rfl, ⟨o, h1⟩, h2⟩ := r
    simp only [toR] at h
    split at h
    · rename_i hl
      cases q : toRs xs with
      | none => rw [q] at h; cases h
      | some ds =>
        rw [q] at h; cases h
        cases ru
        obtain ⟨_, hm, ws, rk, ob, es, n, e1, e2, e3, e4, e5, _⟩ := dk_rd I.hok (.inr ⟨o, hf _ _ h1⟩)
        obtain ⟨a1, a2⟩ := kv_reads (h := s.heap) (ds := ds) (hl.trans h2.length) rk e5 fun us hu => toRs_rep I hf xs vs ds us h2 q hu
        exact .dd e1 e2.1 e3 a1 a2 hm
    · cases h
  | .ref _, _, _, _, _, h, _ => by cases h
  | .adr _ _ _, _, _, _, _, h, _ => by cases h
theorem toRs_rep (I : Inv X pins σ H s) (hf : ∀ a o, g.fz a = some o → H a = some o) : ∀ (xs : List PV) (vs : List V) (ds : List PyData) (us : List Value), RepVs X.K g xs vs → toRs xs = some ds → Vals vs us → RdNs s.heap us ds
  | [], _, _, _, r, h, ru => by cases (show _ = [] from r); cases (show some _ = some _ from h); cases ru; exact .nil
  | x :: xs, _, ds, _, r, h, ru => by
    obtain ⟨v, vr, rfl, r1, r2⟩ := r
    have h' : (match toR x, toRs xs with
      | some d, some ds => some (d :: ds)
      | _, _ => none) = some ds := h
    cases q1 : toR x with
    | none => rw [q1] at h'; cases h'
    | some d =>
      cases q2 : toRs xs with
      | none => rw [q1, q2] at h'; cases h'
      | some ds' =>
        rw [q1, q2] at h'; cases h'
        cases ru with
        | cons u1 u2 => exact .cons (toR_rep I hf x v d _ r1 q1 u1) (toRs_rep I hf xs vr ds' _ r2 q2 u2)
end
theorem RepS.dataR (I : Inv X pins σ H s) (hS : RepS X.K mg g S H) {a : PV} {x : V} {d : PyData} {u : Value} (r : RepV X.K g a x) (h : rOf S a = some d) (ru : RelV x u) : RdN s.heap u d := by
  cases a with
  | ref n =>
    obtain ⟨p, rfl, h1⟩ := r
    obtain ⟨so, h2⟩ := hS.at_ h1
    unfold rOf at h
    simp only [h2] at h
    cases so with
    | lst ys =>
      obtain ⟨vs, q1, q2⟩ := hS.ob n _ p h2 h1
      have h' : (toRs ys).map PyData.list = some d := h
      cases q : toRs ys with
      | none => rw [q] at h'; cases h'
      | some ds =>
        rw [q] at h'; cases h'
        cases ru
        obtain ⟨its, rv, ⟨o, n, ho, hc, _, hd⟩, _⟩ := I.list (SqL.of q1)
        exact .ll ho hc hd (toRs_rep I hS.fz ys vs ds _ q2 q rv)
    | _ => cases h
  | adr b xs vs => cases h
  | non => exact toR_rep I hS.fz _ _ _ _ r h ru
  | bl b => exact toR_rep I hS.fz _ _ _ _ r h ru
  | int i => exact toR_rep I hS.fz _ _ _ _ r h ru
  | str z => exact toR_rep I hS.fz _ _ _ _ r h ru
  | tup xs => exact toR_rep I hS.fz _ _ _ _ r h ru
  | lst xs => exact toR_rep I hS.fz _ _ _ _ r h ru
  | dic ks xs => exact toR_rep I hS.fz _ _ _ _ r h ru
end
end MX
end
section
namespace MX
open PySem PySem.Spec PyProof.Rows L2
def vRepr : VN := fun as S => match as with
  | [a] => match rOf S a with
    | some d => if d.showable = true ∧ d.depth ≤ 64 ∧ d.shown.length ≤ sizeLine then some (.str d.shown, S) else none
    | none => none
  | _ => none
section
variable {X : Cx}
theorem cl_repr (hg : X.A.guards = some []) (hu : X.A.units + 65 < cLine) : CallN X (.builtin "repr") vRepr := by
  intro pins s σ H xs us Q I r ⟨g, S, as, hS, rr, p⟩
  unfold vRepr at p
  split at p
  · rename_i a
    obtain ⟨x, rfl, r1⟩ := rr.one
    obtain ⟨u, rfl, ru⟩ := vals1 r
    split at p
    · rename_i d hd
      split at p
      · rename_i hc
        obtain ⟨h1, h3, h4⟩ := hc
        exact repr_n (hS.dataR I r1 hd ru) h1 hg (by omega) h4 fun h' u' tk hk => ⟨.str d.shown, H, I.kept hk, ⟨_, rfl⟩, p.now hS rfl⟩
      · exact p.elim
    · exact p.elim
  · exact p.elim
end
abbrev Fs := List PV → Sto → Out PV
/-- a def's promise: it does what f tells -/
def spOf (K : PySem.W.Frag) (mg : MP) (n : Nat) (f : Fs) : Sp := fun vs H Q E => ∃ g S as, RepS K mg g S H ∧ RepVs K g as vs ∧ as.length = n ∧ (match f as S with
  | .ok a S' => ∀ v H' g', g.le g' → RepS K mg g' S' H' → RepV K g' a v → Q v H'
  | .exc x S' => ∀ cls d H' g', g.le g' → RepS K mg g' S' H' → RepX K mg g' x cls d H' → E cls d H'
  | .stuck => False)
structure FnG (P : Program) (w : World) (K : PySem.W.Frag) (mg : Str → Option Value) (base : Heap) (k : Nat) (f : Addr) (fd : FuncData) (ps : List Str) (sem : Fs) : Prop where
  run : ∀ (A : Around) (outer : List Env) (s : Shared) (H : Hp) (args : Args) (us : List Value) (vs : List V) (Q : VK) (E : XK), Room k A → A.guards = some [] → Env0 P w K mg base A outer s H → BindsTo s fd args (ps.zip us) → Vals vs us → spOf K ⟨mg, P, w⟩ ps.length sem vs H Q E →
    codeAny (model P w) A (.call (.ref f) args) (CR (L2.CX P w) outer P w H s Q E) s
theorem FnG.mono {P : Program} {w : World} {K : PySem.W.Frag} {mg : Str → Option Value} {base : Heap} {j k : Nat} {f : Addr} {fd : FuncData} {ps : List Str} {sem : Fs} (F : FnG P w K mg base j f fd ps sem) (h : j ≤ k) :
    FnG P w K mg base k f fd ps sem := ⟨fun A outer s H args us vs Q E hr => F.run A outer s H args us vs Q E (hr.mono h)⟩
mutual
def below (n : Nat) : PV → Bool
  | .tup xs => belows n xs
  | .lst xs => belows n xs
  | .ref k => decide (k < n)
  | .adr _ xs _ => belows n xs
  | .dic _ xs => belows n xs
  | _ => true
def belows (n : Nat) : List PV → Bool
  | [] => true
  | x :: xs => below n x && belows n xs
end
section
variable {K : PySem.W.Frag} {g g' : Gh} {n : Nat}
theorem lt_take {α : Type} {l : List α} {i n : Nat} {a : α} (h : l[i]? = some a) (hi : i < n) : (l.take n)[i]? = some a := by
  rw [List.getElem?_take_of_lt hi]; exact h
mutual
theorem RepV.cut (hf : ∀ a o, g.fz a = some o → g'.fz a = some o) (hm : ∀ (i : Nat) (a : Addr), i < n → g.m[i]? = some a → g'.m[i]? = some a) : ∀ (x : PV) (v : V), below n x = true → RepV K g x v → RepV K g' x v
  | .non, _, _, h => h
  | .bl _, _, _, h => h
  | .int _, _, _, h => h
  | .str _, _, _, h => h
  | .tup xs, _, b, h => by
    obtain ⟨a, vs, e, h1, h2⟩ := h
    exact ⟨a, vs, e, TpQ.mono hf h1, RepVs.cut' hf hm xs vs b h2⟩
  | .lst xs, _, b, h => by
    obtain ⟨a, vs, e, h1, h2⟩ := h
    exact ⟨a, vs, e, LsQ.mono hf h1, RepVs.cut' hf hm xs vs b h2⟩
  | .ref k, _, b, h => by
    obtain ⟨a, e, h1⟩ := h
    exact ⟨a, e, hm _ _ (of_decide_eq_true b) h1⟩
  | .adr _ xs vs, _, b, h => ⟨h.1, RepVs.cut' hf hm xs vs b h.2⟩
  | .dic ks xs, _, b, h => by
    obtain ⟨a, vs, e, ⟨o, h1⟩, h2⟩ := h
    exact ⟨a, vs, e, ⟨o, hf _ _ h1⟩, RepVs.cut' hf hm xs vs b h2⟩
theorem RepVs.cut' (hf : ∀ a o, g.fz a = some o → g'.fz a = some o) (hm : ∀ (i : Nat) (a : Addr), i < n → g.m[i]? = some a → g'.m[i]? = some a) : ∀ (xs : List PV) (vs : List V), belows n xs = true → RepVs K g xs vs → RepVs K g' xs vs
  | [], _, _, h => h
  | x :: xs, _, b, h => by
    obtain ⟨v, r, e, h1, h2⟩ := h
    have b' : (below n x && belows n xs) = true := b
    rw [Bool.and_eq_true] at b'
    exact ⟨v, r, e, RepV.cut hf hm x v b'.1 h1, RepVs.cut' hf hm xs r b'.2 h2⟩
end
end
def belowO (n : Nat) : SO → Bool
  | .lst xs => belows n xs
  | .dct kvs => kvs.all fun kv => below n kv.2
  | .dcu kvs => kvs.all fun kv => below n kv.1 && below n kv.2
  | .ins _ fs => fs.all fun kv => below n kv.2
  | .exc _ fs => fs.all fun kv => below n kv.2
  | .dead => true
theorem pairedAll {α β : Type} {F G : α → β → Prop} {p : α → Bool} : ∀ {l₁ : List α} {l₂ : List β}, Paired F l₁ l₂ → l₁.all p = true → (∀ a b, p a = true → F a b → G a b) → Paired G l₁ l₂
  | _, _, .nil, _, _ => .nil
  | _, _, .cons r t, h, f => by
    rw [List.all_cons, Bool.and_eq_true] at h
    exact .cons (f _ _ h.1 r) (pairedAll t h.2 f)
theorem RepO.cut {K : PySem.W.Frag} {mg : MP} {g g' : Gh} {H : Hp} {n : Nat} (hf : ∀ a o, g.fz a = some o → g'.fz a = some o) (hm : ∀ (i : Nat) (a : Addr), i < n → g.m[i]? = some a → g'.m[i]? = some a) {so : SO} {a : Addr} (b : belowO n so = true) (h : RepO K mg g H so a) : RepO K mg g' H so a := by
  cases so with
  | lst xs => obtain ⟨vs, e, r⟩ := h; exact ⟨vs, e, RepVs.cut' hf hm _ _ b r⟩
  | dct kvs => obtain ⟨ws, e, r⟩ := h; exact ⟨ws, e, pairedAll r b fun a b p q => ⟨q.1, RepV.cut hf hm _ _ p q.2⟩⟩
  | dcu kvs => obtain ⟨ws, e, z, r⟩ := h; exact ⟨ws, e, z, pairedAll r b fun a b p ⟨q1, q2, v, q3, q4⟩ => (by rw [Bool.and_eq_true] at p; exact ⟨q1, RepV.cut hf hm _ _ p.1 q2, v, q3, RepV.cut hf hm _ _ p.2 q4⟩)⟩
  | ins c fs => obtain ⟨C, dx, ws, e0, e, r⟩ := h; exact ⟨C, dx, ws, e0, e, pairedAll r b fun a b p q => ⟨q.1, RepV.cut hf hm _ _ p q.2⟩⟩
  | exc c fs =>
    obtain ⟨C, e0, ⟨dx, ws, e, f, r⟩ | z⟩ := h
    · exact ⟨C, e0, .inl ⟨dx, ws, e, hf _ _ f, pairedAll r b fun a b p q => ⟨q.1, RepV.cut hf hm _ _ p q.2⟩⟩⟩
    · exact ⟨C, e0, .inr z⟩
  | dead => trivial
/-- the things from n on forgotten, nobody leans on them -/
theorem RepS.forget {K : PySem.W.Frag} {mg : MP} {g : Gh} {S : Sto} {H : Hp} (n : Nat) (h : RepS K mg g S H) (b : ∀ so ∈ S.take n, belowO n so = true) : RepS K mg ⟨g.fz, g.m.take n, g.rs, g.tb⟩ (S.take n) H := by
  have hm : ∀ (i : Nat) (a : Addr), i < n → g.m[i]? = some a → (g.m.take n)[i]? = some a := fun i a hi e => lt_take e hi
  have un : ∀ {α : Type} {l : List α} {i : Nat} {a : α}, (l.take n)[i]? = some a → l[i]? = some a ∧ i < n := fun {α l i a} e => by
    have hi : i < n := by
      have := (List.getElem?_eq_some_iff.mp e).1
      rw [List.length_take] at this; omega
    rw [List.getElem?_take_of_lt hi] at e
    exact ⟨e, hi⟩
  refine ⟨h.fz, by rw [List.length_take, List.length_take, h.len], fun i so a e1 e2 => ?_, fun i so a e1 n1 e2 => h.nofz i so a (un e1).1 n1 (un e2).1, fun i j s1 s2 a e1 n1 e2 n2 e3 e4 => h.inj i j s1 s2 a (un e1).1 n1 (un e2).1 n2 (un e3).1 (un e4).1, fun a o e => ?_, h.tb⟩
  · exact (h.ob i so a (un e1).1 (un e2).1).cut (g := g) (g' := ⟨g.fz, g.m.take n, g.rs, g.tb⟩) (n := n) (fun _ _ e => e) hm (b so (List.mem_of_getElem? e1))
  · obtain ⟨q1, q2, q3⟩ := h.rs a o e
    exact ⟨q1, q2, fun i so e1 n1 e2 => q3 i so (un e1).1 n1 (un e2).1⟩
section
variable {X : Cx} {k : Nat} {f : Addr} {fd : FuncData} {ps : List Str} {sem : Fs} {x : Str} {p pos : Pos} {e : Expr} {es : List Expr} {tr : Sa}
theorem run_g {pins : List (Addr × Obj)} {σ : L2.St} {H : Hp} {s : Shared} {Q : VK} {us : List Value} {vs : List V} {ds : List Value} {dvs : List V} {dps : List PV} {g : Gh} {S : Sto} {sp : Sl} {as : List PV} (F : FnG X.prog X.w X.K X.mg X.base k f fd ps sem) (hr : Room k X.A) (hgd : X.A.guards = some []) (hb : Binds X.K fd ps ds) (hd : Vals dvs ds) (hdp : ∀ g, RepVs X.K g dps dvs)
    (I : Inv X pins σ H s) (r : Vals vs us) (hS : RepS X.K X.mp g S H) (hE : RepE X.K g sp σ) (ra : RepVs X.K g as vs) (hl : (as ++ dps).length = ps.length) (h : Post X g (RepV X.K) (ExcT X g sp) (sem (as ++ dps) S) Q) :
    wpAny (model X.prog X.w) X.A (call (.ref f) us) (EP X pins σ Q) X.xe s := by
  have r2 : Vals (vs ++ dvs) (us ++ ds) := r.append hd
  have ra2 : RepVs X.K g (as ++ dps) (vs ++ dvs) := ra.append (hdp g)
  have hl2 : (us ++ ds).length = ps.length := by rw [← r2.length, ← ra2.length]; exact hl
  refine wpAny_call (codeAny_mono (F.run X.A X.stack s H ⟨us, []⟩ (us ++ ds) (vs ++ dvs) Q (fun cls d H' => match sem (as ++ dps) S with
    | .exc x S' => ∃ g', g.le g' ∧ RepS X.K X.mp g' S' H' ∧ RepX X.K X.mp g' x cls d H'
    | _ => False) hr hgd I.env0 (hb s us I.kIn hl2) r2 ⟨g, S, as ++ dps, hS, ra2, hl, ?_⟩) fun r s' hq => ?_)
  · cases ho : sem (as ++ dps) S with
    | ok a S' => rw [ho] at h; exact h
    | exc x S' => exact fun cls d H' g' l q r => ⟨g', l, q, r⟩
    | stuck => rw [ho] at h; exact h
  · cases r with
    | error e =>
      have hq' : L2.CX X.prog X.w X.stack H s _ e s' := hq
      cases ho : sem (as ++ dps) S with
      | ok a S' => rw [ho] at hq'; exact ((passes_call (X := X) (W := fun _ _ _ _ => False) (E := fun _ _ _ => False) takes0 (fun _ _ _ _ z => z)) pins σ H s e s' I hq')
      | stuck => rw [ho] at h; exact h.elim
      | exc x S' =>
        rw [ho] at h hq'
        exact h e s' (XE.of_call I (fun cls d H' ⟨g', l, q, r⟩ => ⟨g', l, q, hE.mono l, r⟩) hq')
    | ok fl =>
      cases fl with
      | ret u => exact I.after hq
      | next => exact False.elim hq
      | brk => exact False.elim hq
      | cont => exact False.elim hq
def sxCall (n : Nat) (sem : Fs) (tr : Sa) : Sx := fun sp S => (tr sp S).bind fun as S1 => if as.length = n then sem as S1 else .stuck
theorem se_call (F : FnG X.prog X.w X.K X.mg X.base k f fd ps sem) (hr : Room k X.A) (hgd : X.A.guards = some []) (hg : Gl X x) (hm : X.mg x = some (.ref f)) (hk : PySem.W.keepIn X.K (.ref f) = true) (hb : Binds X.K fd ps [])
    (ha : PA X (e :: es) (rdA X tr)) (hdb : (x == ("__debug__" : Str)) = false := by decide) (he : starEach (e :: es) X.env = (false, eval e X.env) :: starEach es X.env := by rfl) (hpl : (backTo pos (starEach es X.env)).any (·.1) = false := by rfl) :
    PE X (.Call (.Name x p) (e :: es) [] pos) (rdE X (sxCall ps.length sem tr)) := by
  refine ⟨fun pins s σ H Q I ⟨g, sp, S, hS, hE, h⟩ => ?_⟩
  refine wpAny_Call_Name_kw (ld_glob I hg hm ?_ hdb)
  refine PySem.W.callWith_K (h₀ := X.base) I.ok.mod.kin hk (thn (ha.run pos pins s σ H _ I (rdA.fst hS hE h)) fun us s1 ⟨vs, H1, I1, r, as, g1, S1, l1, q1, e1, r1, p1⟩ => ⟨I1.kIn, ?_⟩) he hpl
  split at p1
  · rename_i hl
    exact run_g (ds := []) (dvs := []) (dps := []) F hr hgd hb .nil (fun _ => .nil) I1 r q1 e1 r1 (by rw [List.append_nil]; exact hl) (by rw [List.append_nil]; exact p1)
  · exact p1.elim
end
def startP (n : Nat) (as : List PV) : Sl := as.map some ++ List.replicate (n - as.length) none
def bodyF (n : Nat) (t : Ss) : Fs := fun as S => match t (startP n as) S with
  | .rt v S' => .ok v S'
  | .nx _ S' => .ok .non S'
  | .exc x _ S' => .exc x S'
  | _ => .stuck
theorem repE_start {K : PySem.W.Frag} {g : Gh} {as : List PV} {vs : List V} (r : RepVs K g as vs) (N : List Str) : RepE K g (startP N.length as) (L2.start N vs) := by
  have hl := r.length
  refine ⟨by simp [startP, L2.start, hl], fun i x e => ?_⟩
  unfold startP at e
  by_cases hi : i < as.length
  · rw [List.getElem?_append_left (by simpa using hi), List.getElem?_map] at e
    cases q : as[i]? with
    | none => rw [q] at e; cases e
    | some y =>
      rw [q] at e; cases e
      obtain ⟨v, h1, h2⟩ := r.get q
      refine ⟨v, ?_, h2⟩
      unfold L2.start
      rw [List.getElem?_append_left (by simpa [← hl] using hi), List.getElem?_map, h1]
      rfl
  · rw [List.getElem?_append_right (by simpa using hi), List.getElem?_replicate] at e
    split at e <;> cases e
section
variable {P : Program} {w : World} {K : PySem.W.Frag} {mg : Str → Option Value} {base : Heap} {x qual : Str} {params : Arguments} {body : List Stmt} {scope : Scope} {dvs : List V} {kws : List (Str × V)} {f : Addr} {fd : FuncData}
/-- the context of a def's body -/
abbrev CxB (P : Program) (w : World) (K : PySem.W.Frag) (mg : Str → Option Value) (base : Heap) (N : List Str) (qual : Str) (scope : Scope) (f : Addr) (cdv : Value) (A : Around) (outer : List Env) (s : Shared) (H : Hp) (E : XK) : Cx := cxOf (L2.CX P w) P w K mg base N qual scope f cdv A outer s H E
theorem fn_gC {N ps : List Str} {k : Nat} {t : Ss} (F : FunD K x qual params body scope dvs kws f fd) (S : FnScope N ps scope)
    (hbody : ∀ (cdv : Value) (A : Around) (outer : List Env) (s : Shared) (H : Hp) (E : XK), cdv = fd.code → Room k (A.deeper (envOfC qual scope s.heap.objs.size f cdv)) → (A.deeper (envOfC qual scope s.heap.objs.size f cdv)).guards = some [] →
      PSs (CxB P w K mg base N qual scope f cdv A outer s H E) body (rdS (CxB P w K mg base N qual scope f cdv A outer s H E) t)) : FnG P w K mg base (k + 1) f fd ps (bodyF N.length t) := by
  obtain ⟨oc, od, dV, kV, doc, pm, an, cdv, ct, osl, rfl, lk, hcd, _, _⟩ := F.ex
  refine ⟨fun A outer s H args us vs Q E hr hgd e0 hb r ⟨g, S0, as, hS, ra, hlen, hsp⟩ => ?_⟩
  have hl : vs.length = ps.length := by rw [← ra.length]; exact hlen
  have KX : K.In s.heap := e0.mod.kin.keeps fun b o e => (e0.bs b o e).1
  have lim : s.heap.NoLimit := e0.mod.nolimit.keeps fun b o e => (e0.bs b o e).1
  have hkind : ∀ y ∈ ps.zip us, scope.names.lookup y.1 = some .local ∨ (scope.names.lookup y.1 = some .cell ∧ ((cellsFrom (s.heap.objs.size + 1) scope.names []).lookup y.1).isSome = true) := fun ⟨n, v⟩ hy => by
    rcases S.par n (List.of_mem_zip hy).1 with q | q
    · exact .inl q
    · exact .inr ⟨q, PySem.W.cellsFrom_some _ _ _ (.inl q)⟩
  refine codeAny_call_function hr.depth (KX _ _ lk) rfl S.co S.gen rfl (PySem.W.codeRec_of KX hcd) (hb _ _ _ _ ?_)
  refine wpAny_newFunctionEnv_cells S.kind hkind fun env he s1 x => ?_
  subst he
  refine ⟨lim.keeps x.toInCall.keep, codeAny_func ?_⟩
  have ht := hbody cdv A outer s H E rfl (hr.deeper _) hgd
  have I : Inv (CxB P w K mg base N qual scope f cdv A outer s H E) [] (L2.start N vs) H s1 := inv_start S hr.hd e0 hl r x
  have hq : rdS (CxB P w K mg base N qual scope f cdv A outer s H E) t { nx := fun _ H' => Q .non H', rt := Q } (L2.start N vs) H := by
    refine ⟨g, startP N.length as, S0, hS, repE_start ra N, ?_⟩
    unfold bodyF at hsp
    cases ho : t (startP N.length as) S0 with
    | rt v S' => rw [ho] at hsp; exact hsp
    | nx sp S' => rw [ho] at hsp; exact fun σ H' g' l q _ => hsp .non H' g' l q rfl
    | exc z sp S' =>
      rw [ho] at hsp
      have tk : Takes (CxB P w K mg base N qual scope f cdv A outer s H E) (fun cls d _ H => E cls d H) := takes_of rfl rfl rfl rfl
      exact Takes.imp tk fun cls d σ' H' ⟨g', l, q1, q2, q3⟩ => hsp cls d H' g' l q1 q3
    | bk sp S' => rw [ho] at hsp; exact hsp.elim
    | ct sp S' => rw [ho] at hsp; exact hsp.elim
    | stuck => rw [ho] at hsp; exact hsp.elim
  refine wpAny_mono (ht.run [] s1 (L2.start N vs) H _ I hq) (fun fl s' hs => ?_) fun e s' hs => hs
  have fin : ∀ {σ' : L2.St} {H' : Hp} {v : V} {u : Value}, Inv (CxB P w K mg base N qual scope f cdv A outer s H E) [] σ' H' s' → RelV v u → Q v H' → CE outer P w H s Q u s' :=
    fun {σ' H' v u} J rv q => ⟨v, H', J.os, J.bare, J.base, J.hok, rv, q⟩
  cases fl with
  | ret u =>
    obtain ⟨v, σ', H', J, rv, q⟩ := hs
    exact fin J rv q
  | next =>
    obtain ⟨σ', H', J, q⟩ := hs
    exact fin (v := V.non) (u := Value.none) J rfl q
  | brk =>
    obtain ⟨_, _, _, q⟩ := hs
    exact False.elim q
  | cont =>
    obtain ⟨_, _, _, q⟩ := hs
    exact False.elim q
theorem fn_g {N ps : List Str} {k : Nat} {t : Ss} (F : FunD K x qual params body scope dvs kws f fd) (S : FnScope N ps scope)
    (hbody : ∀ (cdv : Value) (A : Around) (outer : List Env) (s : Shared) (H : Hp) (E : XK), Room k (A.deeper (envOfC qual scope s.heap.objs.size f cdv)) → (A.deeper (envOfC qual scope s.heap.objs.size f cdv)).guards = some [] →
      PSs (CxB P w K mg base N qual scope f cdv A outer s H E) body (rdS (CxB P w K mg base N qual scope f cdv A outer s H E) t)) : FnG P w K mg base (k + 1) f fd ps (bodyF N.length t) := fn_gC F S fun cdv A outer s H E _ hr hgd => hbody cdv A outer s H E hr hgd
/-- exceptions of a body pass a loop's turn -/
theorem passB {N : List Str} {cdv : Value} {A : Around} {outer : List Env} {s : Shared} {H : Hp} {E : XK} : PassesOwn (model (CxB P w K mg base N qual scope f cdv A outer s H E).prog (CxB P w K mg base N qual scope f cdv A outer s H E).w) (CxB P w K mg base N qual scope f cdv A outer s H E).A (CxB P w K mg base N qual scope f cdv A outer s H E).env (CxB P w K mg base N qual scope f cdv A outer s H E).xe :=
  passes_of rfl
end
end MX
end
section
namespace MX
open PySem PySem.Spec PyProof.Rows L2
theorem ints_repV {K : PySem.W.Frag} {g : Gh} : ∀ ns : List Int, RepVs K g (ns.map PV.int) (ns.map V.int)
  | [] => .nil
  | n :: ns => .cons rfl (ints_repV ns)
theorem law_start {K : PySem.W.Frag} {mg : MP} {H : Hp} {a : Addr} {ns : List Int} {sem : Fs} (hT : ∀ p ∈ funsK K, H p.2.1 = some (.tbl #[])) (hS : LsQ K H a (ns.map V.int)) (h : ∃ S', sem [.lst (ns.map PV.int)] [] = .ok (.bl true) S') :
    spOf K mg 1 sem [.ref a] H (fun v _ => v = .bl true) fun _ _ _ => False := by
  obtain ⟨S', e⟩ := h
  obtain ⟨fz, efz⟩ : ∃ fz : Hp, fz = fun b => match H b with
      | some (.tbl _) => none
      | o => o := ⟨_, rfl⟩
  have f1 : ∀ b o, fz b = some o → H b = some o := fun b o z => by
    rw [efz] at z
    dsimp only at z
    split at z
    · cases z
    · exact z
  have f2 : ∀ b ps, H b = some (.tbl ps) → fz b = none := fun b ps z => by rw [efz]; simp only [z]
  have f3 : ∀ b o, H b = some o → (∀ ps, o ≠ .tbl ps) → fz b = some o := fun b o z n => by
    rw [efz]
    dsimp only
    split
    · rename_i ps w
      rw [z] at w
      exact absurd (Option.some.inj w) (n ps)
    · exact z
  have hS' : LsQ K fz a (ns.map V.int) := by
    rcases hS with (q | ⟨o, q⟩) | q
    · exact .inl (.inl (f3 _ _ q fun _ z => by cases z))
    · exact .inl (.inr ⟨o, f3 _ _ q fun _ z => by cases z⟩)
    · exact .inr q
  refine ⟨⟨fz, [], fun _ => none, []⟩, [], [.lst (ns.map PV.int)], ⟨f1, rfl, fun i so a e1 _ => by simp at e1, fun i so a e1 _ _ => by simp at e1, fun i j so so' a e1 _ _ _ _ _ => by simp at e1, fun a o e => (by cases e), fun p hp => (by
    obtain ⟨q, hq, rfl⟩ := List.mem_map.mp hp
    exact ⟨LamX.TabS.nil (hT q hq), f2 _ _ (hT q hq), rfl⟩)⟩, .cons ⟨a, _, rfl, hS', ints_repV ns⟩ .nil, rfl, ?_⟩
  rw [e]
  exact fun v H' g' _ _ r => r
theorem law_run {P : Program} {w : World} {K : PySem.W.Frag} {mg mb : Str → Option Value} {k : Nat} {fa a : Addr} {fd : FuncData} {x : Str} {sem : Fs} {s₁ : Shared} {vs : List Value} {ns : List Int}
    (KX : K.In s₁.heap) (hns : s₁.heap.Ns mainGlobals mg) (hb : s₁.heap.Ns builtinsNs mb) (hbb : ∀ x : Str, x ≠ "__name__" → mb x = bootBuiltins x) (hlim : s₁.heap.NoLimit) (hg : s₁.gens = #[])
    (emp : ∀ p ∈ funsK K, s₁.heap.get? p.2.1 = some { cls := .none, data := .fields #[] }) (out : ∀ p ∈ funsK K, K.lookup p.2.1 = none)
    (bmn : ∃ (bm : Addr) (ob : Obj), mg "__builtins__" = some (.ref bm) ∧ bm ≠ builtinsNs ∧ s₁.heap.get? bm = some ob ∧ ob.cls = .type "module" ∧ ob.dict = some builtinsNs ∧ ob.data = .plain)
    (ha : s₁.heap.get? a = some { cls := .type "list", data := .seq vs.toArray }) (hi : IntsAre vs ns) (hl : ns.length ≤ sizeLine) (hr : Room k callerA)
    (F : ∀ base : Heap, K.In base → base.Ns mainGlobals mg → (∀ p ∈ funsK K, LamX.TabB base mg p.1 p.2.1) → FnG P w K mg base k fa fd [x] sem) (hbind : ∀ (s : Shared) (u : Value), BindsTo s fd ⟨[u], []⟩ [(x, u)])
    (hsem : ∃ S', sem [.lst (ns.map PV.int)] [] = .ok (.bl true) S') :
    codeAny (model P w) callerA (.call (.ref fa) ⟨[.ref a], []⟩) (fun r s' => r = .ok (.ret (.bool true)) ∧ OldK s₁.heap s'.heap ∧ s'.os = s₁.os ∧ AllBare s'.gens) s₁ := by
  have rv := vals_ints hi
  have lenV := hi.length
  obtain ⟨ts, ets⟩ : ∃ ts, ts = (funsK K).map fun p => p.2.1 := ⟨_, rfl⟩
  have hd : ∀ p ∈ funsK K, PySem.W.CodeHd s₁.heap p.1 p.2.1 := fun p hp => by
    unfold funsK at hp
    obtain ⟨⟨b, o⟩, _, e⟩ := List.mem_filterMap.mp hp
    dsimp only at e
    split at e
    · split at e
      · split at e
        · rename_i q
          cases e
          exact PySem.W.codeHd_of_K KX q
        · cases e
      · cases e
    · cases e
  have eT : ∀ b ∈ ts, s₁.heap.get? b = some { cls := .none, data := .fields #[] } := fun b h => by
    rw [ets] at h
    obtain ⟨p, hp, rfl⟩ := List.mem_map.mp h
    exact emp p hp
  have oT : ∀ b ∈ ts, K.lookup b = none := fun b h => by
    rw [ets] at h
    obtain ⟨p, hp, rfl⟩ := List.mem_map.mp h
    exact out p hp
  have inT : ∀ p ∈ funsK K, p.2.1 ∈ ts := fun p hp => by rw [ets]; exact List.mem_map.mpr ⟨p, hp, rfl⟩
  have aT : a ∉ ts := fun z => by
    have q := ha.symm.trans (eT a z)
    cases q
  -- from an abstract heap in which nothing but the script and the tables may be tracked
  have core : ∀ H : Hp, (∀ b ∈ ts, H b = some (.tbl #[])) → (∀ b u, H b = some u → (b ∈ ts ∧ u = .tbl #[]) ∨ (b = a ∧ ∃ o xs, u = .frz o (.lst xs))) → LsQ K H a (ns.map V.int) → HOk P w H s₁.heap → (H a ≠ none → K.lookup a = none) →
      codeAny (model P w) callerA (.call (.ref fa) ⟨[.ref a], []⟩) (fun r s' => r = .ok (.ret (.bool true)) ∧ OldK s₁.heap s'.heap ∧ s'.os = s₁.os ∧ AllBare s'.gens) s₁ := by
    intro H tH hO hS hok hK
    have hsp : spOf K ⟨mg, P, w⟩ ([x] : List Str).length sem [.ref a] H (fun v _ => v = .bl true) fun _ _ _ => False := law_start (fun p hp => tH _ (inT p hp)) hS hsem
    have free : ∀ {b : Addr} {o : Obj}, s₁.heap.get? b = some o → b ≠ a → o.data ≠ .fields #[] → H b = none := fun {b o} e n1 n2 => by
      cases q : H b with
      | none => rfl
      | some u =>
        rcases hO b u q with ⟨z, _⟩ | ⟨z, _⟩
        · rw [eT b z] at e; cases e; exact absurd rfl n2
        · exact absurd z n1
    have low : ∀ {b : Addr} {o : Obj}, s₁.heap.get? b = some o → H b = none → (hidT s₁.heap H).get? b = some o := fun e n => hidT_get e n
    have dic : ∀ {b : Addr} {o : Obj} {es : Array DictEntry} {ep : Nat}, s₁.heap.get? b = some o → o.data = .dict es ep → H b = none := fun {b o es ep} e d => free e (fun z => by rw [z, ha] at e; cases e; cases d) (fun z => by rw [d] at z; cases z)
    have nsK : ∀ {b : Addr} {m : Str → Option Value}, s₁.heap.Ns b m → (hidT s₁.heap H).Ns b m := fun {b m} ⟨o, es, ep, e, d, r⟩ => ⟨o, es, ep, low e (dic e d), d, r⟩
    have inB : K.In (hidT s₁.heap H) := fun b o e => low (KX b o e) (by
      cases q : H b with
      | none => rfl
      | some u =>
        rcases hO b u q with ⟨z, _⟩ | ⟨z, _⟩
        · rw [oT b z] at e; cases e
        · rw [z] at e q
          rw [hK (by rw [q]; simp)] at e; cases e)
    have hM : Mod K mg (hidT s₁.heap H) := ⟨inB, nsK hns, ⟨mb, nsK hb, hbb⟩, let ⟨mc, h1, h2⟩ := hlim; ⟨mc, nsK h1, h2⟩⟩
    have fld : ∀ {b : Addr} {o : Obj} {us : Array Value}, s₁.heap.get? b = some o → o.data = .fields us → us ≠ #[] → (hidT s₁.heap H).get? b = some o := fun {b o us} e d n => low e (free e (fun z => by rw [z, ha] at e; cases e; cases d) (fun z => by rw [d] at z; cases z; exact n rfl))
    have tb : ∀ p ∈ funsK K, LamX.TabB (hidT s₁.heap H) mg p.1 p.2.1 := fun p hp => by
      have hTp := emp p hp
      refine ⟨?_, ?_, fun z => ?_⟩
      · obtain ⟨o, us, file, tf, flags, tg, inF, text, tt, c1, c2, c3, c4, c5⟩ := hd p hp
        exact ⟨o, us, file, tf, flags, tg, inF, text, tt, fld c1 c3 (fun z => by rw [z] at c4; simp at c4), c2, c3, c4, c5⟩
      · obtain ⟨bm, ob, b1, b2, b3, b4, b5, b6⟩ := bmn
        refine ⟨bm, ob, b1, b2, fun q => ?_, fun q => ?_, low b3 (free b3 (fun q => ?_) fun z => ?_), b4, b5, b6⟩
        · obtain ⟨o, es, ep, e, d, _⟩ := hns
          rw [q, e] at b3; cases b3
          rw [d] at b6; cases b6
        · rw [q, hTp] at b3; cases b3; cases b6
        · rw [q, ha] at b3; cases b3; cases b6
        · rw [b6] at z; cases z
      · obtain ⟨o, es, ep, e, d, _⟩ := hns
        rw [z, hTp] at e; cases e; cases d
    have e0 : Env0 P w K mg (hidT s₁.heap H) callerA [] s₁ H := ⟨rfl, hM, fun b o e => of_hidT e, Nat.le_of_eq (hidT_size _ _), trivial, fun b hb => absurd (show b ∈ ([] : List Addr) from hb) (by simp), hok, .of_eq hg⟩
    refine codeAny_mono ((F _ inB (nsK hns) tb).run callerA [] s₁ H ⟨[.ref a], []⟩ [.ref a] [.ref a] _ _ hr rfl e0 (hbind s₁ (.ref a)) (.cons rfl .nil) hsp) fun r s' h => ?_
    cases r with
    | error e =>
      have h' : L2.CX P w [] H s₁ (fun _ _ _ => False) e s' := h
      obtain ⟨_, _, _, _, _, _, _, _, _, _, _, _, z⟩ := h'
      exact z.elim
    | ok fl =>
      cases fl with
      | next => exact False.elim h
      | brk => exact False.elim h
      | cont => exact False.elim h
      | ret u =>
        obtain ⟨v, H', os, bare, un, hok', r', q⟩ := h
        have q' : v = .bl true := q
        subst q'
        obtain rfl : u = Value.bool true := r'
        have same : ∀ b o, b ∉ ts → s₁.heap.get? b = some o → s'.heap.get? b = some o := fun b o nb e => by
          cases q : H b with
          | none => exact un.keep b o e q (by intro z; exact absurd (show b ∈ ([] : List Addr) from z) (by simp)) (by simp)
          | some u =>
            rcases hO b u q with ⟨z, _⟩ | ⟨_, ob, xs, rfl⟩
            · exact absurd z nb
            · obtain ⟨e1, _⟩ := hok b _ q
              obtain ⟨e2, _⟩ := hok' b _ (un.frzs b ob _ q)
              rw [e] at e1; cases e1
              exact e2
        have more : ∀ b ∈ ts, ∃ us : Array Value, s'.heap.get? b = some { cls := .none, data := .fields us } := fun b hb => by
          obtain ⟨us, z⟩ := un.tbls b #[] (tH b hb)
          exact ⟨_, hok' b _ z⟩
        refine ⟨rfl, ⟨fun b o e => ?_, fun b o e => ?_⟩, os, bare⟩
        · by_cases hb : b ∈ ts
          · have hb' := hb
            rw [ets] at hb'
            obtain ⟨p, hp, rfl⟩ := List.mem_map.mp hb'
            obtain ⟨us, hm⟩ := more _ hb
            rw [eT _ hb] at e; cases e
            exact .inr (.inl ⟨((hd p hp).tab (emp p hp)).isCodeTable, rfl, #[], us, rfl, by rw [Array.empty_append]; exact hm⟩)
          · exact .inl (same b o hb e)
        · by_cases hb : b ∈ ts
          · obtain ⟨us, hm⟩ := more b hb
            exact ⟨_, hm⟩
          · exact ⟨o, same b o hb e⟩
  cases hk : K.lookup a with
  | some o =>
    -- the script is one of the module's own objects
    have e := KX a o hk
    rw [ha] at e
    cases e
    refine core (fun b => if b ∈ ts then some (.tbl #[]) else none) (fun b h => if_pos h) (fun b u z => ?_) (.inr ⟨vs, _, hk, by rw [List.length_map]; exact hl, rv⟩) (fun b u z => ?_) fun z => absurd (if_neg aT) z
    · by_cases hb : b ∈ ts
      · have z' := (if_pos hb).symm.trans z
        cases z'
        exact .inl ⟨hb, rfl⟩
      · have z' := (if_neg hb).symm.trans z
        cases z'
    · by_cases hb : b ∈ ts
      · have z' := (if_pos hb).symm.trans z
        cases z'
        exact eT b hb
      · have z' := (if_neg hb).symm.trans z
        cases z'
  | none =>
    refine core (fun b => if b = a then some (.frz { cls := .type "list", data := .seq vs.toArray } (.lst (ns.map V.int))) else if b ∈ ts then some (.tbl #[]) else none) (fun b h => (if_neg (fun z => aT (by rw [← z]; exact h))).trans (if_pos h)) (fun b u z => ?_)
      (.inl (.inr ⟨{ cls := .type "list", data := .seq vs.toArray }, if_pos rfl⟩)) (fun b u z => ?_) fun _ => hk
    · by_cases hb : b = a
      · have z' := (if_pos hb).symm.trans z
        cases z'
        exact .inr ⟨hb, _, _, rfl⟩
      · have z1 := (if_neg hb).symm.trans z
        by_cases h2 : b ∈ ts
        · have z' := (if_pos h2).symm.trans z1
          cases z'
          exact .inl ⟨h2, rfl⟩
        · have z' := (if_neg h2).symm.trans z1
          cases z'
    · by_cases hb : b = a
      · have z' := (if_pos hb).symm.trans z
        cases z'
        subst hb
        exact ⟨ha, by rw [List.length_map]; exact hl, vs, _, rv, ha⟩
      · have z1 := (if_neg hb).symm.trans z
        by_cases h2 : b ∈ ts
        · have z' := (if_pos h2).symm.trans z1
          cases z'
          exact eT b h2
        · have z' := (if_neg h2).symm.trans z1
          cases z'
/-- the goal that the head leaves, from the law's own function -/
theorem law_walk {l : PySem.W.OpenLaw} {n k : Nat} {q : Program} {loose : List Str} {XP : (Str → Option Value) → Heap → Prop} {YP : World → Heap → Prop} {d : DefRec} {x : Str} (hn : l.most = some n) (hn2 : n ≤ sizeLine) (hdf : d.params.defaults = []) (hr : Room k callerA)
    (F : ∀ (w : World) (mg : Str → Option Value) (fa : Addr) (h : Heap), YP w h → h.Ns mainGlobals mg → mg d.name = some (.ref fa) → ∃ (K : PySem.W.Frag) (fd : FuncData) (sem : Fs), K.In h ∧ (∀ p ∈ funsK K, h.get? p.2.1 = some { cls := .none, data := .fields #[] }) ∧
      (∀ p ∈ funsK K, K.lookup p.2.1 = none) ∧ (∀ (s : Shared) (u : Value), BindsTo s fd ⟨[u], []⟩ [(x, u)]) ∧
      (∀ ns : List Int, ns.length ≤ n → ∃ S', sem [.lst (ns.map PV.int)] [] = .ok (.bl true) S') ∧ ∀ base : Heap, K.In base → base.Ns mainGlobals mg → (∀ p ∈ funsK K, LamX.TabB base mg p.1 p.2.1) → FnG l.prog w K mg base k fa fd [x] sem) :
    PySem.W.WalkO q loose XP YP l.row.toRowW d [] (fun f vs => PySem.call f vs) := by
  refine Att.attach_call hn hdf fun w s₀ s₁ mg mb fa o pm cd doc a vs ns G Y ho hd hcd hmg hobj hints hlen hg => ?_
  obtain ⟨K, fd, sem, KX, emp, out, hb, hsem, hF⟩ := F w mg fa _ Y G.T.g hmg
  exact law_run KX G.T.g G.T.b G.T.builtins G.T.nolimit hg emp out G.T.bmain hobj hints (Nat.le_trans hlen hn2) hr hF hb (hsem ns hlen)
end MX
namespace He
open PySem PySem.Spec PyProof.Rows L2
/-- the tables of the written part's defs: empty, not of it -/
def tabAll (g : Addr → Option Obj) (K : PySem.W.Frag) : Bool := ((MX.funsK K).all fun p => match g p.2.1 with
  | some o => emptyTab o
  | none => false) && decide ((MX.funsK K).map fun p => p.2.1).Nodup
abbrev AlM : Type := AlD × Bool
def KM (n : Nat) (g : Addr → Option Obj) : PySem.W.Frag := frT g (asD g n ++ [cStatics])
def obsMG (n : Nat) (fa : List Fa) (fn : List DefD) (b : PySem.W.Frag → Bool) (g : Addr → Option Obj) : AlM := (obsD fa fn (KM n g), b (KM n g) && tabAll g (KM n g))
structure SaysM (fa : List Fa) (fn : List DefD) (b : PySem.W.Frag → Bool) (h : Heap) (K : PySem.W.Frag) : Prop where
  d : SaysD fa fn K
  b : b K = true
  emp : ∀ p ∈ MX.funsK K, h.get? p.2.1 = some { cls := .none, data := .fields #[] }
  out : ∀ p ∈ MX.funsK K, K.lookup p.2.1 = none
  nd : ((MX.funsK K).map fun p => p.2.1).Nodup
theorem saysM_of {n : Nat} {fa : List Fa} {fn : List DefD} {b : PySem.W.Frag → Bool} {h : Heap} (e : obsMG n fa fn b h.get? = (valD fn, true)) : SaysM fa fn b h (KM n h.get?) := by
  have e1 : obsD fa fn (KM n h.get?) = valD fn := congrArg (fun z : AlM => z.1) e
  obtain ⟨e2, e3⟩ := ba (show (b (KM n h.get?) && tabAll h.get? (KM n h.get?)) = true from congrArg (fun z : AlM => z.2) e)
  obtain ⟨e4, e5⟩ := ba e3
  have at_ : ∀ p ∈ MX.funsK (KM n h.get?), ∃ o, h.get? p.2.1 = some o ∧ emptyTab o = true := fun p hp => by
    have z := List.all_eq_true.mp e4 p hp
    cases q : h.get? p.2.1 with
    | none => rw [q] at z; cases z
    | some o => rw [q] at z; exact ⟨o, rfl, z⟩
  exact ⟨e1, e2, fun p hp => (by
    obtain ⟨o, q, z⟩ := at_ p hp
    rw [q, emptyTab_eq z]), fun p hp => (by
    obtain ⟨o, q, z⟩ := at_ p hp
    exact frT_none q z), of_decide_eq_true e5⟩
end He
end
section
namespace MX
open PySem PySem.Spec PyProof.Rows L2
theorem hu1 {k : Nat} {A : Around} (r : Room k A) : A.units + 1 < cLine := by have := r.un; omega
theorem hu64 {k : Nat} {A : Around} (r : Room k A) : A.units + 64 < cLine := by have := r.un; omega
theorem hu65 {k : Nat} {A : Around} (r : Room k A) : A.units + 65 < cLine := by have := r.un; omega
section
variable {X : Cx} {x : Str} {pos : Pos}
end
def fd0 : FuncData := { name := "", qualname := "", params := { posonlyargs := [], args := [], vararg := none, kwonlyargs := [], kw_defaults := [], kwarg := none, defaults := [] }, body := .stmts [], scope := { (default : Scope) with }, globals := 0, closure := [], defaults := .none, kwdefaults := .none }
def fdOf (K : PySem.W.Frag) (a : Addr) : FuncData := match K.lookup a with
  | some o => match o.data with
    | .func fd => fd
    | _ => fd0
  | none => fd0
theorem FunD.toOf {K : PySem.W.Frag} {x qual : Str} {params : Arguments} {body : List Stmt} {scope : Scope} {dvs : List V} {kws : List (Str × V)} {f : Addr} {fd : FuncData} (F : FunD K x qual params body scope dvs kws f fd) : FunD K x qual params body scope dvs kws f (fdOf K f) := by
  have e : fdOf K f = fd := by
    obtain ⟨oc, od, dV, kV, doc, pm, an, cdv, ct, osl, e1, e2, _⟩ := F.ex
    unfold fdOf
    rw [e2]
  rw [e]; exact F
theorem tuple_mul1 (l : Addr) (its : Array Value) (n : Nat) (dd : Option Addr) (sl : Array (Option Value)) (u : Tok) :
    Meets (Builtin.«tuple.__mul__» ⟨[.ref l, .int 1 u], []⟩) (fun _ R s => s.heap.get? l = some { cls := .type "tuple", dict := dd, data := .seq its n, slots := sl } ∧ R (.ok (.ret (Value.ref l))) s) :=
  .of_wp fun prog w A R s h => by
    obtain ⟨hp, g, d, tk, os⟩ := s
    obtain ⟨hl, h⟩ := h
    have f1 := AutoSeq1.idx_int
    wp_walk using wpAny_loadPart' hl
    exact ⟨_, rfl, h⟩
def vMulT : V2 := fun a b S => match a, b with
  | .tup xs, .int k => if k = 1 then some (.tup xs, S) else vMul (.tup xs) (.int k) S
  | a, b => vMul a b S
theorem op_mulT {X : Cx} : Op2 X (binaryOp .Mult) vMulT := by
  intro pins s σ H x y v u Q I rx ry ⟨g, S, a, b, hS, r1, r2, p⟩
  unfold vMulT at p
  split at p
  · rename_i xs k
    split at p
    · rename_i hk
      subst hk
      obtain ⟨l, vs, q1, q2, q3⟩ := id r1
      subst q1
      cases rx
      have e2 : y = V.int 1 := r2
      subst e2
      obtain ⟨t, rfl⟩ := ry
      obtain ⟨its, r, ⟨⟨cls, dd, data, sl⟩, ho, hc, n, hd⟩, hs⟩ := I.tuple (TpQ.t hS.fz q2)
      simp only at hc hd
      subst hc hd
      refine wpAny_binaryOp_repeat_ref (T := "tuple") (U := "int") (by decide) ⟨_, ho, rfl⟩ (fun s' => typeIs_int s' 1 t) noFill_tuple_mul F.fills_int_mul F.slot_int_rmul repeat_tuple F.slot_int_index.lookup
        (call_meets F.slot_int_rmul (typeIs_int s 1 t) F.entry_int_rmul (F.args_int_rmul_2 _ _) (int_rmul_tuple 1 t l its.toArray n dd sl)
          ⟨ho, rfl, ⟨_, ho, rfl⟩, call_meets F.slot_tuple_mul ⟨_, ho, rfl⟩ F.entry_tuple_mul (F.args_tuple_mul_2 _ _) (tuple_mul1 l its.toArray n dd sl t) ⟨ho, ?_⟩⟩)
      exact ⟨.ref l, H, I, rfl, p.now hS r1⟩
    · exact op_mul' pins s σ H x y v u Q I rx ry ⟨g, S, _, _, hS, r1, r2, p⟩
  · exact op_mul' pins s σ H x y v u Q I rx ry ⟨g, S, _, _, hS, r1, r2, p⟩
/-- texts, of any letters; else as before -/
def vEqS : V2 := fun a b S => match a, b with
  | .str x, .str y => some (.bl (decide (x = y)), S)
  | a, b => vEq a b S
theorem op_eqS {X : Cx} (hu : X.A.units + 64 < cLine) : Op2 X (compareOp .Eq) vEqS := by
  intro pins s σ H x y v u Q I rx ry ⟨g, S, a, b, hS, r1, r2, p⟩
  unfold vEqS at p
  split at p
  · rename_i z w
    have e1 : x = V.str z := r1
    have e2 : y = V.str w := r2
    subst e1 e2
    refine op_eq pins s σ H _ _ v u Q I rx ry ⟨rfl, ?_⟩
    have e : decide (V.str z = V.str w) = decide (z = w) := decide_eq_decide.mpr ⟨fun q => by cases q; rfl, fun q => by rw [q]⟩
    rw [e]
    exact p.now hS rfl
  · exact op_eq' hu pins s σ H x y v u Q I rx ry ⟨g, S, _, _, hS, r1, r2, p⟩
end MX
end
section
namespace MX
open PySem PySem.Spec PyProof.Rows L2
inductive RR (α : Type) where
  | ok (a : α) | exc (x : EX) | stuck
def mapO {α β : Type} (f : α → Option β) : List α → Option (List β)
  | [] => some []
  | x :: xs => match f x with
    | none => none
    | some y => (mapO f xs).map (y :: ·)
def thawN (S : Sto) (n : Nat) : Nat → PV → Option PV
  | 0, _ => none
  | f + 1, v => match v with
    | .tup xs => (mapO (thawN S n f) xs).map .tup
    | .lst xs => (mapO (thawN S n f) xs).map .lst
    | .ref j => if n ≤ j then match S[j]? with
      | some (.lst xs) => (mapO (thawN S n f) xs).map .lst
      | _ => none else none
    | .adr _ _ _ => none
    | .dic ks xs => if belows 0 xs = true then some (.dic ks xs) else none
    | v => some v
/-- data as it is; else the new lists in it by what they hold -/
def thaw (S : Sto) (n f : Nat) (v : PV) : Option PV := if below 0 v = true then some v else thawN S n f v
def thawF (S : Sto) (n f : Nat) : List (Str × PV) → Option (List (Str × PV))
  | [] => some []
  | (k, x) :: xs => match thaw S n f x with
    | none => none
    | some y => (thawF S n f xs).map ((k, y) :: ·)
section
variable {K : PySem.W.Frag} {mg : MP} {g g' : Gh} {S S' : Sto} {H H' : Hp}
/-- what stands for the things apart from the ones named -/
def Stash (g : Gh) (S : Sto) (ks : List Nat) (a : Addr) : Prop := ∃ (i : Nat) (so : SO), i ∉ ks ∧ S[i]? = some so ∧ so ≠ .dead ∧ g.m[i]? = some a
noncomputable def apartRs (g : Gh) (S : Sto) (H : Hp) (ks : List Nat) : Hp := open Classical in fun a => if Stash g S ks a then H a else g.rs a
noncomputable def apart (g : Gh) (S : Sto) (H : Hp) (ks : List Nat) : Gh := ⟨g.fz, ks.map (fun k => (g.m[k]?).getD 0), apartRs g S H ks, g.tb⟩
def pickS (S : Sto) (ks : List Nat) : Sto := ks.map fun k => (S[k]?).getD .dead
theorem pick_get {ks : List Nat} {j : Nat} {so : SO} (hl : ∀ k ∈ ks, ∃ so, S[k]? = some so ∧ so ≠ .dead) (e : (pickS S ks)[j]? = some so) : ∃ k, ks[j]? = some k ∧ S[k]? = some so := by
  unfold pickS at e
  rw [List.getElem?_map] at e
  cases q : ks[j]? with
  | none => rw [q] at e; cases e
  | some k =>
    rw [q] at e
    obtain ⟨so', h1, h2⟩ := hl k (List.mem_of_getElem? q)
    refine ⟨k, rfl, ?_⟩
    have e' : (S[k]?).getD .dead = so := Option.some.inj e
    rw [h1] at e' ⊢
    exact congrArg some e'
theorem apart_m {ks : List Nat} (h : RepS K mg g S H) (hl : ∀ k ∈ ks, ∃ so, S[k]? = some so ∧ so ≠ .dead) {j k : Nat} (e : ks[j]? = some k) : (apart g S H ks).m[j]? = g.m[k]? := by
  show (ks.map fun k => (g.m[k]?).getD 0)[j]? = _
  rw [List.getElem?_map, e]
  obtain ⟨so, h1, _⟩ := hl k (List.mem_of_getElem? e)
  obtain ⟨a, h2⟩ := h.addr h1
  simp [h2]
theorem RepS.toApart {ks : List Nat} (h : RepS K mg g S H) (hn : ks.Nodup) (hl : ∀ k ∈ ks, ∃ so, S[k]? = some so ∧ so ≠ .dead) (hb : ∀ so ∈ pickS S ks, belowO 0 so = true) : RepS K mg (apart g S H ks) (pickS S ks) H := by
  have at_ : ∀ {j : Nat} {so : SO} {a : Addr}, (pickS S ks)[j]? = some so → (MX.apart g S H ks).m[j]? = some a → ∃ k, ks[j]? = some k ∧ S[k]? = some so ∧ g.m[k]? = some a := fun {j so a} e1 e2 => by
    obtain ⟨k, q1, q2⟩ := pick_get hl e1
    exact ⟨k, q1, q2, by rw [← apart_m h hl q1]; exact e2⟩
  refine ⟨h.fz, by simp [MX.apart, pickS], fun j so a e1 e2 => ?_, fun j so a e1 n e2 => ?_, fun j1 j2 s1 s2 a e1 n1 e2 n2 e3 e4 => ?_, fun a o e => ?_, fun q hq => ⟨(h.tb q hq).1, (h.tb q hq).2.1, by
    show apartRs g S H ks q.1 = none
    unfold apartRs
    rw [if_neg (fun z => by
      obtain ⟨i, so, _, z2, z3, z4⟩ := z
      exact tabS_live (h.tb q hq).1 ((h.ob i so _ z2 z4).kind z3) rfl)]
    exact (h.tb q hq).2.2⟩⟩
  · obtain ⟨k, q1, q2, q3⟩ := at_ e1 e2
    exact (h.ob k so a q2 q3).cut (g := g) (g' := MX.apart g S H ks) (n := 0) (fun _ _ e => e) (fun i a hi _ => absurd hi (Nat.not_lt_zero _)) (hb so (List.mem_of_getElem? e1))
  · obtain ⟨k, q1, q2, q3⟩ := at_ e1 e2
    exact h.nofz k so a q2 n q3
  · obtain ⟨k1, p1, p2, p3⟩ := at_ e1 e3
    obtain ⟨k2, q1, q2, q3⟩ := at_ e2 e4
    have := h.inj k1 k2 s1 s2 a p2 n1 q2 n2 p3 q3
    subst this
    exact (List.getElem?_inj (List.getElem?_eq_some_iff.mp p1).1 hn).mp (p1.trans q1.symm)
  · have e' : apartRs g S H ks a = some o := e
    unfold apartRs at e'
    split at e'
    · rename_i hs
      obtain ⟨i, so, i1, i2, i3, i4⟩ := hs
      refine ⟨e', h.nofz i so a i2 i3 i4, fun j s1 f1 f2 f3 => ?_⟩
      obtain ⟨k, q1, q2, q3⟩ := at_ f1 f3
      have := h.inj i k so s1 a i2 i3 q2 f2 i4 q3
      subst this
      exact i1 (List.mem_of_getElem? q1)
    · obtain ⟨r1, r2, r3⟩ := h.rs a o e'
      refine ⟨r1, r2, fun j s1 f1 f2 f3 => ?_⟩
      obtain ⟨k, q1, q2, q3⟩ := at_ f1 f3
      exact r3 k s1 q2 f2 q3
/-- the new lists stay as they are -/
def NewL (g' : Gh) (S' : Sto) (n : Nat) (a : Addr) : Prop := ∃ (j : Nat) (xs : List PV), n ≤ j ∧ S'[j]? = some (.lst xs) ∧ g'.m[j]? = some a
noncomputable def backFz (g' : Gh) (S' : Sto) (H' : Hp) (n : Nat) : Hp := open Classical in fun a => if NewL g' S' n a then H' a else g'.fz a
noncomputable def backG (g g' : Gh) (S' : Sto) (H' : Hp) (n : Nat) : Gh := ⟨backFz g' S' H' n, g.m, g.rs, g.tb⟩
theorem backFz_fz {n : Nat} (h : RepS K mg g' S' H') {a : Addr} {o : HO} (e : g'.fz a = some o) : backFz g' S' H' n a = some o := by
  unfold backFz
  split
  · exact h.fz a o e
  · exact e
theorem RepS.toArapart {g : Gh} {S : Sto} {H : Hp} (h : RepS K mg g S H) : RepS K mg (MX.apart g S H []) [] H := h.toApart (ks := []) (by simp) (fun k hk => by cases hk) (fun so hso => by cases hso)
theorem RepS.back {ks : List Nat} {S2 : Sto} (h : RepS K mg g S H) (hl : ∀ k ∈ ks, ∃ so, S[k]? = some so ∧ so ≠ .dead) (l : (apart g S H ks).le g') (h' : RepS K mg g' S' H')
    (hlen : S2.length = S.length) (hin : ∀ (j k : Nat), ks[j]? = some k → S2[k]? = S'[j]?) (hout : ∀ i, i ∉ ks → S2[i]? = S[i]?) (hb : ∀ j so, j < ks.length → S'[j]? = some so → belowO 0 so = true) :
    RepS K mg (backG g g' S' H' ks.length) S2 H' ∧ g.le (backG g g' S' H' ks.length) := by
  have gle : g.le (backG g g' S' H' ks.length) := ⟨fun a o e => backFz_fz h' (l.fz a o e), fun _ _ e => e, rfl, rfl⟩
  have inK : ∀ {i : Nat}, i ∈ ks → ∃ j, ks[j]? = some i ∧ j < ks.length := fun {i} hi => by
    obtain ⟨j, hj, e⟩ := List.getElem_of_mem hi
    exact ⟨j, by rw [List.getElem?_eq_getElem hj, e], hj⟩
  have m' : ∀ {j k : Nat} {a : Addr}, ks[j]? = some k → g.m[k]? = some a → g'.m[j]? = some a := fun {j k a} e1 e2 => l.m j a (by rw [apart_m h hl e1]; exact e2)
  have st : ∀ {a : Addr}, Stash g S ks a → ∃ o, H a = some o ∧ H' a = some o ∧ g'.fz a = none ∧ ∀ (i : Nat) (so : SO), S'[i]? = some so → so ≠ .dead → g'.m[i]? ≠ some a := fun {a} hs => by
    obtain ⟨i, so, i1, i2, i3, i4⟩ := hs
    obtain ⟨o, q⟩ := (h.ob i so a i2 i4).there i3
    have e : g'.rs a = some o := by
      rw [l.rs]
      show apartRs g S H ks a = some o
      unfold apartRs
      rw [if_pos ⟨i, so, i1, i2, i3, i4⟩]; exact q
    obtain ⟨r1, r2, r3⟩ := h'.rs a o e
    exact ⟨o, q, r1, r2, r3⟩
  have live0 : ∀ {i : Nat} {so : SO}, S2[i]? = some so → so ≠ .dead → ∃ s0, S[i]? = some s0 ∧ s0 ≠ .dead := fun {i so} e n => by
    by_cases hi : i ∈ ks
    · exact hl i hi
    · rw [hout i hi] at e; exact ⟨so, e, n⟩
  refine ⟨⟨fun a o e => ?_, by rw [hlen]; exact h.len, fun i so a e1 e2 => ?_, fun i so a e1 n e2 => ?_, fun i1 i2 s1 s2 a e1 n1 e2 n2 e3 e4 => ?_, fun a o e => ?_, ?_⟩, gle⟩
  · have e' : backFz g' S' H' ks.length a = some o := e
    unfold backFz at e'
    split at e'
    · exact e'
    · exact h'.fz a o e'
  · by_cases hi : i ∈ ks
    · obtain ⟨j, q1, q2⟩ := inK hi
      rw [hin j i q1] at e1
      have e3 := m' q1 e2
      exact (h'.ob j so a e1 e3).cut (g := g') (g' := backG g g' S' H' ks.length) (n := 0) (fun _ _ e => backFz_fz h' e) (fun i a hi _ => absurd hi (Nat.not_lt_zero _)) (hb j so q2 e1)
    · rw [hout i hi] at e1
      rcases dead_or so with z | z
      · subst z; trivial
      · obtain ⟨o, q1, q2, q3, q4⟩ := st ⟨i, so, hi, e1, z, e2⟩
        exact ((h.ob i so a e1 e2).heap (q2.trans q1.symm)).mono gle
  · show backFz g' S' H' ks.length a = none
    unfold backFz
    by_cases hi : i ∈ ks
    · obtain ⟨j, q1, q2⟩ := inK hi
      rw [hin j i q1] at e1
      have e3 := m' q1 e2
      rw [if_neg]
      · exact h'.nofz j so a e1 n e3
      · rintro ⟨j2, xs, p1, p2, p3⟩
        have := h'.inj j j2 so _ a e1 n p2 (by intro z; cases z) e3 p3
        omega
    · rw [hout i hi] at e1
      obtain ⟨o, q1, q2, q3, q4⟩ := st ⟨i, so, hi, e1, n, e2⟩
      rw [if_neg]
      · exact q3
      · rintro ⟨j2, xs, p1, p2, p3⟩
        exact q4 j2 _ p2 (by intro z; cases z) p3
  · obtain ⟨t1, p1, p2⟩ := live0 e1 n1
    obtain ⟨t2, q1, q2⟩ := live0 e2 n2
    exact h.inj i1 i2 t1 t2 a p1 p2 q1 q2 e3 e4
  · have e' : g.rs a = some o := e
    obtain ⟨r1, r2, r3⟩ := h.rs a o e'
    have e2 : g'.rs a = some o := by
      rw [l.rs]
      show apartRs g S H ks a = some o
      unfold apartRs
      rw [if_neg]
      · exact e'
      · rintro ⟨i, so, i1, i2, i3, i4⟩
        exact r3 i so i2 i3 i4
    obtain ⟨k1, k2, k3⟩ := h'.rs a o e2
    refine ⟨k1, ?_, fun i so f1 f2 f3 => ?_⟩
    · show backFz g' S' H' ks.length a = none
      unfold backFz
      rw [if_neg]
      · exact k2
      · rintro ⟨j2, xs, p1, p2, p3⟩
        exact k3 j2 _ p2 (by intro z; cases z) p3
    · obtain ⟨s0, p1, p2⟩ := live0 f1 f2
      exact r3 i s0 p1 p2 f3
  · refine fun q hq => ⟨(h'.tb q hq).1, ?_, (h.tb q hq).2.2⟩
    show backFz g' S' H' ks.length q.1 = none
    unfold backFz
    rw [if_neg (fun z => by
      obtain ⟨j, xs, _, z2, z3⟩ := z
      exact tabS_live (h'.tb q hq).1 ((h'.ob j _ _ z2 z3).kind (fun z => by cases z)) rfl)]
    exact (h'.tb q hq).2.1
theorem RepVs.mapO {n : Nat} {F : PV → Option PV} : ∀ (xs ys : List PV) (vs : List V), MX.mapO F xs = some ys → (∀ x y v, F x = some y → RepV K g' x v → RepV K (backG g g' S' H' n) y v) → RepVs K g' xs vs → RepVs K (backG g g' S' H' n) ys vs
  | [], ys, vs, e, _, r => by cases e; exact r
  | x :: xs, ys, vs, e, hF, r => by
    obtain ⟨v, t, e1, h1, h2⟩ := r
    simp only [MX.mapO] at e
    split at e
    · cases e
    · rename_i z q
      simp only [Option.map_eq_some_iff] at e
      obtain ⟨zs, e2, e3⟩ := e
      subst e3
      exact ⟨v, t, e1, hF x z v q h1, RepVs.mapO xs zs t e2 hF h2⟩
theorem RepV.thawN {n : Nat} (h' : RepS K mg g' S' H') : ∀ (f : Nat) (x y : PV) (v : V), MX.thawN S' n f x = some y → RepV K g' x v → RepV K (backG g g' S' H' n) y v
  | 0, _, _, _, e, _ => by cases e
  | f + 1, .non, y, v, e, r => by cases e; exact r
  | f + 1, .bl _, y, v, e, r => by cases e; exact r
  | f + 1, .int _, y, v, e, r => by cases e; exact r
  | f + 1, .str _, y, v, e, r => by cases e; exact r
  | f + 1, .adr _ _ _, y, v, e, r => by cases e
  | f + 1, .dic ks xs, y, v, e, r => by
    simp only [MX.thawN] at e
    split at e
    · rename_i hb
      cases e
      exact RepV.cut (g := g') (g' := backG g g' S' H' n) (n := 0) (fun _ _ e => backFz_fz h' e) (fun i a hi _ => absurd hi (Nat.not_lt_zero _)) _ v hb r
    · cases e
  | f + 1, .tup xs, y, v, e, r => by
    obtain ⟨a, vs, e1, h1, h2⟩ := r
    simp only [MX.thawN, Option.map_eq_some_iff] at e
    obtain ⟨ys, e2, e3⟩ := e
    subst e3
    exact ⟨a, vs, e1, TpQ.mono (fun _ _ e => backFz_fz h' e) h1, RepVs.mapO xs ys vs e2 (RepV.thawN h' f) h2⟩
  | f + 1, .lst xs, y, v, e, r => by
    obtain ⟨a, vs, e1, h1, h2⟩ := r
    simp only [MX.thawN, Option.map_eq_some_iff] at e
    obtain ⟨ys, e2, e3⟩ := e
    subst e3
    exact ⟨a, vs, e1, LsQ.mono (fun _ _ e => backFz_fz h' e) h1, RepVs.mapO xs ys vs e2 (RepV.thawN h' f) h2⟩
  | f + 1, .ref j, y, v, e, r => by
    obtain ⟨a, e1, h1⟩ := r
    simp only [MX.thawN] at e
    split at e
    · rename_i hj
      split at e
      · rename_i xs q
        simp only [Option.map_eq_some_iff] at e
        obtain ⟨ys, e2, e3⟩ := e
        subst e3
        obtain ⟨ws, q1, q2⟩ := h'.ob j _ a q h1
        refine ⟨a, ws, e1, .inl (.inl ?_), RepVs.mapO xs ys ws e2 (RepV.thawN h' f) q2⟩
        show backFz g' S' H' n a = _
        unfold backFz
        rw [if_pos ⟨j, xs, hj, q, h1⟩]; exact q1
      · cases e
    · cases e
theorem RepV.thaw {n : Nat} (h' : RepS K mg g' S' H') (f : Nat) (x y : PV) (v : V) (e : MX.thaw S' n f x = some y) (r : RepV K g' x v) : RepV K (backG g g' S' H' n) y v := by
  unfold MX.thaw at e
  split at e
  · rename_i hb
    cases e
    exact RepV.cut (g := g') (g' := backG g g' S' H' n) (n := 0) (fun _ _ e => backFz_fz h' e) (fun i a hi _ => absurd hi (Nat.not_lt_zero _)) x v hb r
  · exact RepV.thawN h' f x y v e r
theorem RepF.thaw {n f : Nat} (h' : RepS K mg g' S' H') : ∀ {xs ys : List (Str × PV)} {ws : List (Str × V)}, thawF S' n f xs = some ys → RepF K g' xs ws → RepF K (backG g g' S' H' n) ys ws
  | [], ys, ws, e, r => by cases e; cases r; exact .nil
  | (k, x) :: xs, ys, ws, e, r => by
    cases r with
    | cons r1 r2 =>
      simp only [thawF] at e
      split at e
      · cases e
      · rename_i z q
        simp only [Option.map_eq_some_iff] at e
        obtain ⟨zs, e2, e3⟩ := e
        subst e3
        exact .cons ⟨r1.1, RepV.thaw h' f x z _ q r1.2⟩ (RepF.thaw h' e2 r2)
end
end MX
end
section
namespace MX
open PySem PySem.Spec PyProof.Rows L2
def thawE (S : Sto) (n : Nat) (x : EX) : Option EX := (thawF S n 20 x.fs).map (EX.mk x.cls)
def pureF (f : Fs) : List PV → RR PV := fun as => if belows 0 as = true then (match f as [] with
  | .ok v S' => match thaw S' 0 20 v with
    | some y => .ok y
    | none => .stuck
  | .exc x S' => match thawE S' 0 x with
    | some y => .exc y
    | none => .stuck
  | .stuck => .stuck) else .stuck
def liftP (f : List PV → RR PV) : Fs := fun as S => match f as with
  | .ok v => .ok v S
  | .exc x => .exc x S
  | .stuck => .stuck
/-- the first argument is a thing of the store -/
def objF (f : Fs) : SO → List PV → RR (PV × SO) := fun so as => if belows 0 as = true ∧ belowO 0 so = true then (match f (.ref 0 :: as) [so] with
  | .ok v S' => match thaw S' 1 20 v with
    | some y => match S'[0]? with
      | some so' => if belowO 0 so' = true then .ok (y, so') else .stuck
      | none => .stuck
    | none => .stuck
  | _ => .stuck) else .stuck
def liftO (f : SO → List PV → RR (PV × SO)) : Fs := fun as S => match as with
  | .ref k :: rest => match S[k]? with
    | some .dead => .stuck
    | some so => match f so rest with
      | .ok r => .ok r.1 (S.set k r.2)
      | _ => .stuck
    | none => .stuck
  | _ => .stuck
/-- a dict is made -/
def makeF (f : Fs) : List PV → RR SO := fun as => if belows 0 as = true then (match f as [] with
  | .ok (.ref j) S' => match S'[j]? with
    | some (.dct kvs) => if belowO 0 (.dct kvs) = true then .ok (.dct kvs) else .stuck
    | some (.lst xs) => if belowO 0 (.lst xs) = true then .ok (.lst xs) else .stuck
    | _ => .stuck
  | _ => .stuck) else .stuck
def liftK (f : List PV → RR SO) : Fs := fun as S => match f as with
  | .ok so => .ok (.ref S.length) (S ++ [so])
  | _ => .stuck
section
variable {P : Program} {w : World} {K : PySem.W.Frag} {mg : Str → Option Value} {base : Heap} {k : Nat} {f : Addr} {fd : FuncData} {ps : List Str} {sem : Fs}
theorem repX_thaw {mg : MP} {g g' : Gh} {S' : Sto} {H' : Hp} {n : Nat} {x y : EX} {cls : Value} {d : Option Addr} (h' : RepS K mg g' S' H') (e : thawE S' n x = some y) (r : RepX K mg g' x cls d H') : RepX K mg (backG g g' S' H' n) y cls d H' := by
  unfold thawE at e
  simp only [Option.map_eq_some_iff] at e
  obtain ⟨fs, e1, e2⟩ := e
  subst e2
  obtain ⟨C, r0, r1, dx, ws, r2, r3, r4⟩ := r
  exact ⟨C, r0, r1, dx, ws, r2, backFz_fz h' r3, RepF.thaw h' e1 r4⟩
theorem RepVs.apart {g : Gh} {S : Sto} {H : Hp} {ks : List Nat} {as : List PV} {vs : List V} (b : belows 0 as = true) (r : RepVs K g as vs) : RepVs K (MX.apart g S H ks) as vs :=
  RepVs.cut' (g := g) (g' := MX.apart g S H ks) (n := 0) (fun _ _ e => e) (fun i a hi _ => absurd hi (Nat.not_lt_zero _)) as vs b r
theorem FnG.pure (F : FnG P w K mg base k f fd ps sem) : FnG P w K mg base k f fd ps (liftP (pureF sem)) := ⟨fun A outer s H args us vs Q E hr hg he hb hv ⟨g, S, as, h1, h2, h3, h4⟩ => by
  unfold liftP pureF at h4
  by_cases hbl : belows 0 as = true
  · rw [if_pos hbl] at h4
    have hA : RepS K ⟨mg, P, w⟩ (MX.apart g S H []) [] H := h1.toArapart
    refine F.run A outer s H args us vs Q E hr hg he hb hv ⟨MX.apart g S H [], [], as, hA, h2.apart hbl, h3, ?_⟩
    cases ho : sem as [] with
    | stuck => rw [ho] at h4; exact h4
    | ok v S' =>
      rw [ho] at h4
      simp only at h4
      cases ht : thaw S' 0 20 v with
      | none => rw [ht] at h4; exact h4.elim
      | some y =>
        rw [ht] at h4
        intro u H' g' l q r
        obtain ⟨b1, b2⟩ := h1.back (ks := []) (S2 := S) (fun k hk => by cases hk) l q rfl (fun j k e => by simp at e) (fun _ _ => rfl) (fun j so hj => absurd hj (Nat.not_lt_zero _))
        exact h4 u H' _ b2 b1 (RepV.thaw q 20 v y u ht r)
    | exc x S' =>
      rw [ho] at h4
      simp only at h4
      cases ht : thawE S' 0 x with
      | none => rw [ht] at h4; exact h4.elim
      | some y =>
        rw [ht] at h4
        intro cls d H' g' l q r
        obtain ⟨b1, b2⟩ := h1.back (ks := []) (S2 := S) (fun k hk => by cases hk) l q rfl (fun j k e => by simp at e) (fun _ _ => rfl) (fun j so hj => absurd hj (Nat.not_lt_zero _))
        exact h4 cls d H' _ b2 b1 (repX_thaw q ht r)
  · rw [if_neg hbl] at h4
    exact h4.elim⟩
theorem FnG.obj (F : FnG P w K mg base k f fd ps sem) : FnG P w K mg base k f fd ps (liftO (objF sem)) := ⟨fun A outer s H args us vs Q E hr hg he hb hv ⟨g, S, as, h1, h2, h3, h4⟩ => by
  have h5 : ∃ (j : Nat) (rest : List PV) (so : SO), as = .ref j :: rest ∧ S[j]? = some so ∧ so ≠ .dead ∧ (match (match objF sem so rest with
      | .ok r => Out.ok r.1 (S.set j r.2)
      | _ => .stuck : Out PV) with
    | .ok a S' => ∀ v H' g', g.le g' → RepS K ⟨mg, P, w⟩ g' S' H' → RepV K g' a v → Q v H'
    | .exc x S' => ∀ cls d H' g', g.le g' → RepS K ⟨mg, P, w⟩ g' S' H' → RepX K ⟨mg, P, w⟩ g' x cls d H' → E cls d H'
    | .stuck => False) := by
    cases as with
    | nil => exact h4.elim
    | cons a rest =>
      cases a with
      | ref j =>
        simp only [liftO] at h4
        cases hS : S[j]? with
        | none => rw [hS] at h4; exact h4.elim
        | some so =>
          rw [hS] at h4
          cases so with
          | dead => exact h4.elim
          | _ => exact ⟨j, rest, _, rfl, hS, (by intro z; cases z), h4⟩
      | _ => exact h4.elim
  clear h4
  obtain ⟨j, rest, so, rfl, hS, hnd, h4⟩ := h5
  unfold objF at h4
  by_cases hbl : belows 0 rest = true ∧ belowO 0 so = true
  · rw [if_pos hbl] at h4
    have hl : ∀ k ∈ [j], ∃ so, S[k]? = some so ∧ so ≠ .dead := fun k hk => by
      rw [List.mem_singleton] at hk; subst hk
      exact ⟨so, hS, hnd⟩
    have hp : pickS S [j] = [so] := by simp [pickS, hS]
    have hA : RepS K ⟨mg, P, w⟩ (MX.apart g S H [j]) [so] H := by
      have := h1.toApart (ks := [j]) (by simp) hl (by rw [hp]; intro so' h; rw [List.mem_singleton] at h; subst h; exact hbl.2)
      rw [hp] at this; exact this
    obtain ⟨v0, vr, rfl, r1, r2⟩ := h2
    have rA : RepVs K (MX.apart g S H [j]) (.ref 0 :: rest) (v0 :: vr) := by
      obtain ⟨a, e1, e2⟩ := r1
      exact .cons ⟨a, e1, (apart_m h1 hl (j := 0) rfl).trans e2⟩ (r2.apart hbl.1)
    refine F.run A outer s H args us (v0 :: vr) Q E hr hg he hb hv ⟨MX.apart g S H [j], [so], .ref 0 :: rest, hA, rA, h3, ?_⟩
    cases ho : sem (.ref 0 :: rest) [so] with
    | stuck => rw [ho] at h4; exact h4
    | exc x S' => rw [ho] at h4; exact h4.elim
    | ok v S' =>
      rw [ho] at h4
      simp only at h4
      cases ht : thaw S' 1 20 v with
      | none => rw [ht] at h4; exact h4.elim
      | some y =>
        rw [ht] at h4
        simp only at h4
        cases hs : S'[0]? with
        | none => rw [hs] at h4; exact h4.elim
        | some so' =>
          rw [hs] at h4
          simp only at h4
          by_cases hb' : belowO 0 so' = true
          · rw [if_pos hb'] at h4
            intro u H' g' l q r
            obtain ⟨b1, b2⟩ := h1.back (ks := [j]) (S2 := S.set j so') hl l q (by simp) (fun i k e => by
              cases i with
              | zero =>
                have e' : j = k := by simpa using e
                subst e'
                rw [hs, List.getElem?_set_self (List.getElem?_eq_some_iff.mp hS).1]
              | succ i => simp at e) (fun i hi => List.getElem?_set_ne (fun z => hi (by rw [z]; simp))) (fun i s1 hi e => by
                have : i = 0 := by simp at hi; exact hi
                subst this
                rw [hs] at e; cases e; exact hb')
            exact h4 u H' _ b2 b1 (RepV.thaw q 20 v y u ht r)
          · rw [if_neg hb'] at h4; exact h4.elim
  · rw [if_neg hbl] at h4; exact h4.elim⟩
/-- a thing that the call has made, handed to the store -/
theorem RepS.adopt {mg : MP} {g : Gh} {S : Sto} {H : Hp} {p : Addr} {so : SO} (h : RepS K mg g S H) (r : RepO K mg g H so p) (n : so ≠ .dead) (hf : g.fz p = none) (hrs : g.rs p = none) (hm : ∀ (i : Nat) (s1 : SO), S[i]? = some s1 → s1 ≠ .dead → g.m[i]? ≠ some p) :
    RepS K mg ⟨g.fz, g.m ++ [p], g.rs, g.tb⟩ (S ++ [so]) H ∧ g.le ⟨g.fz, g.m ++ [p], g.rs, g.tb⟩ := by
  have l : g.le ⟨g.fz, g.m ++ [p], g.rs, g.tb⟩ := ⟨fun _ _ e => e, fun i a e => by
    show (g.m ++ [p])[i]? = some a
    rw [List.getElem?_append_left (List.getElem?_eq_some_iff.mp e).1]; exact e, rfl, rfl⟩
  have cs : ∀ {i : Nat} {s1 : SO} {a : Addr}, (S ++ [so])[i]? = some s1 → (g.m ++ [p])[i]? = some a → (S[i]? = some s1 ∧ g.m[i]? = some a) ∨ (i = S.length ∧ s1 = so ∧ a = p) := fun {i s1 a} e1 e2 => by
    by_cases hi : i < S.length
    · rw [List.getElem?_append_left hi] at e1
      rw [List.getElem?_append_left (by rw [h.len]; exact hi)] at e2
      exact .inl ⟨e1, e2⟩
    · have hi2 : i = S.length := by
        have := (List.getElem?_eq_some_iff.mp e1).1
        rw [List.length_append, List.length_singleton] at this; omega
      subst hi2
      rw [List.getElem?_append_right (Nat.le_refl _)] at e1
      rw [List.getElem?_append_right (by rw [h.len]; exact Nat.le_refl _), h.len] at e2
      simp at e1 e2
      exact .inr ⟨rfl, e1.symm, e2.symm⟩
  refine ⟨⟨h.fz, by simp [h.len], fun i s1 a e1 e2 => ?_, fun i s1 a e1 n1 e2 => ?_, fun i j s1 s2 a e1 n1 e2 n2 e3 e4 => ?_, fun a o e => ?_, h.tb⟩, l⟩
  · rcases cs e1 e2 with ⟨q1, q2⟩ | ⟨_, rfl, rfl⟩
    · exact (h.ob i s1 a q1 q2).mono l
    · exact r.mono l
  · rcases cs e1 e2 with ⟨q1, q2⟩ | ⟨_, rfl, rfl⟩
    · exact h.nofz i s1 a q1 n1 q2
    · exact hf
  · rcases cs e1 e3 with ⟨q1, q2⟩ | ⟨i1, rfl, rfl⟩ <;> rcases cs e2 e4 with ⟨q3, q4⟩ | ⟨i2, rfl, p2⟩
    · exact h.inj i j s1 s2 a q1 n1 q3 n2 q2 q4
    · subst p2; exact absurd q2 (hm i s1 q1 n1)
    · exact absurd q4 (hm j s2 q3 n2)
    · rw [i1, i2]
  · obtain ⟨r1, r2, r3⟩ := h.rs a o e
    refine ⟨r1, r2, fun i s1 e1 n1 e2 => ?_⟩
    rcases cs e1 e2 with ⟨q1, q2⟩ | ⟨_, rfl, rfl⟩
    · exact r3 i s1 q1 n1 q2
    · have e' : g.rs a = some o := e
      rw [hrs] at e'; cases e'
theorem RepS.kill {mg : MP} {g : Gh} {S : Sto} {H : Hp} (h : RepS K mg g S H) (k : Nat) : RepS K mg g (S.set k .dead) H := by
  have cs : ∀ {i : Nat} {so : SO}, (S.set k .dead)[i]? = some so → so ≠ .dead → S[i]? = some so := fun {i so} q n => by
    by_cases hi : k = i
    · subst hi
      have hl : k < S.length := by
        have := (List.getElem?_eq_some_iff.mp q).1
        simpa using this
      rw [List.getElem?_set_self hl] at q
      exact absurd (Option.some.inj q).symm n
    · rwa [List.getElem?_set_ne hi] at q
  refine ⟨h.fz, by simp [h.len], fun i so a e1 e2 => ?_, fun i so a e1 n e2 => h.nofz i so a (cs e1 n) n e2, fun i j s1 s2 a e1 n1 e2 n2 e3 e4 => h.inj i j s1 s2 a (cs e1 n1) n1 (cs e2 n2) n2 e3 e4, fun a o q => ?_, h.tb⟩
  · rcases dead_or so with z | z
    · subst z; trivial
    · exact h.ob i so a (cs e1 z) e2
  · obtain ⟨r1, r2, r3⟩ := h.rs a o q
    exact ⟨r1, r2, fun i so e1 n e2 => r3 i so (cs e1 n) n e2⟩
theorem FnG.make (F : FnG P w K mg base k f fd ps sem) : FnG P w K mg base k f fd ps (liftK (makeF sem)) := ⟨fun A outer s H args us vs Q E hr hg he hb hv ⟨g, S, as, h1, h2, h3, h4⟩ => by
  unfold liftK makeF at h4
  by_cases hbl : belows 0 as = true
  · rw [if_pos hbl] at h4
    have hA : RepS K ⟨mg, P, w⟩ (MX.apart g S H []) [] H := h1.toArapart
    refine F.run A outer s H args us vs Q E hr hg he hb hv ⟨MX.apart g S H [], [], as, hA, h2.apart hbl, h3, ?_⟩
    cases ho : sem as [] with
    | stuck => rw [ho] at h4; exact h4
    | exc x S' => rw [ho] at h4; exact h4.elim
    | ok v S' =>
      rw [ho] at h4
      cases v with
      | ref j =>
        simp only at h4
        cases hs : S'[j]? with
        | none => rw [hs] at h4; exact h4.elim
        | some so =>
          rw [hs] at h4
          cases so with
          | dct kvs =>
            simp only at h4
            by_cases hb' : belowO 0 (.dct kvs) = true
            · rw [if_pos hb'] at h4
              intro u H' g' l q r
              obtain ⟨b1, b2⟩ := h1.back (ks := []) (S2 := S) (fun k hk => by cases hk) l q rfl (fun j k e => by simp at e) (fun _ _ => rfl) (fun j so hj => absurd hj (Nat.not_lt_zero _))
              obtain ⟨p, rfl, em⟩ := r
              have ro := q.ob j _ p hs em
              have n0 : SO.dct kvs ≠ .dead := by intro z; cases z
              have st : ∀ {o : HO}, (MX.apart g S H []).rs p = some o → False := fun {o} e => by
                rw [← l.rs] at e
                exact (q.rs p o e).2.2 j _ hs n0 em
              have a1 : (backG g g' S' H' 0).fz p = none := by
                show backFz g' S' H' 0 p = none
                unfold backFz
                rw [if_neg]
                · exact q.nofz j _ p hs n0 em
                · rintro ⟨i, xs, _, p2, p3⟩
                  have := q.inj i j _ _ p p2 (by intro z; cases z) hs n0 p3 em
                  subst this
                  rw [hs] at p2; cases p2
              have a2 : ∀ (i : Nat) (s1 : SO), S[i]? = some s1 → s1 ≠ .dead → g.m[i]? ≠ some p := fun i s1 e1 n1 e2 => by
                obtain ⟨o, e3⟩ := (h1.ob i s1 p e1 e2).there n1
                refine st (o := o) ?_
                show apartRs g S H [] p = some o
                unfold apartRs
                rw [if_pos ⟨i, s1, by simp, e1, n1, e2⟩]; exact e3
              have a3 : g.rs p = none := by
                cases e : g.rs p with
                | none => rfl
                | some o =>
                  refine (st (o := o) ?_).elim
                  show apartRs g S H [] p = some o
                  unfold apartRs
                  rw [if_neg]
                  · exact e
                  · rintro ⟨i, s1, _, i2, i3, i4⟩
                    exact a2 i s1 i2 i3 i4
              have ro' : RepO K ⟨mg, P, w⟩ (backG g g' S' H' 0) H' (.dct kvs) p := ro.cut (g := g') (g' := backG g g' S' H' 0) (n := 0) (fun _ _ e => backFz_fz q e) (fun i a hi _ => absurd hi (Nat.not_lt_zero _)) hb'
              obtain ⟨c1, c2⟩ := RepS.adopt b1 ro' n0 a1 a3 a2
              refine h4 (.ref p) H' _ (b2.trans c2) c1 ⟨p, rfl, ?_⟩
              show (g.m ++ [p])[S.length]? = some p
              rw [← h1.len]; simp
            · rw [if_neg hb'] at h4; exact h4.elim
          | lst xs =>
            simp only at h4
            by_cases hb' : belowO 0 (.lst xs) = true
            · rw [if_pos hb'] at h4
              intro u H' g' l q r
              have q' := q.kill j
              obtain ⟨b1, b2⟩ := h1.back (ks := []) (S2 := S) (fun k hk => by cases hk) l q' rfl (fun j k e => by simp at e) (fun _ _ => rfl) (fun j so hj => absurd hj (Nat.not_lt_zero _))
              obtain ⟨p, rfl, em⟩ := r
              have ro := q.ob j _ p hs em
              have n0 : SO.lst xs ≠ .dead := by intro z; cases z
              have st : ∀ {o : HO}, (MX.apart g S H []).rs p = some o → False := fun {o} e => by
                rw [← l.rs] at e
                exact (q.rs p o e).2.2 j _ hs n0 em
              have a1 : (backG g g' (S'.set j .dead) H' 0).fz p = none := by
                show backFz g' (S'.set j .dead) H' 0 p = none
                unfold backFz
                rw [if_neg]
                · exact q.nofz j _ p hs n0 em
                · rintro ⟨i, ys, _, p2, p3⟩
                  by_cases hij : j = i
                  · subst hij
                    rw [List.getElem?_set_self (List.getElem?_eq_some_iff.mp hs).1] at p2
                    cases p2
                  · rw [List.getElem?_set_ne hij] at p2
                    exact hij (q.inj i j _ _ p p2 (by intro z; cases z) hs n0 p3 em).symm
              have a2 : ∀ (i : Nat) (s1 : SO), S[i]? = some s1 → s1 ≠ .dead → g.m[i]? ≠ some p := fun i s1 e1 n1 e2 => by
                obtain ⟨o, e3⟩ := (h1.ob i s1 p e1 e2).there n1
                refine st (o := o) ?_
                show apartRs g S H [] p = some o
                unfold apartRs
                rw [if_pos ⟨i, s1, by simp, e1, n1, e2⟩]; exact e3
              have a3 : g.rs p = none := by
                cases e : g.rs p with
                | none => rfl
                | some o =>
                  refine (st (o := o) ?_).elim
                  show apartRs g S H [] p = some o
                  unfold apartRs
                  rw [if_neg]
                  · exact e
                  · rintro ⟨i, s1, _, i2, i3, i4⟩
                    exact a2 i s1 i2 i3 i4
              have ro' : RepO K ⟨mg, P, w⟩ (backG g g' (S'.set j .dead) H' 0) H' (.lst xs) p := ro.cut (g := g') (g' := backG g g' (S'.set j .dead) H' 0) (n := 0) (fun _ _ e => backFz_fz q' e) (fun i a hi _ => absurd hi (Nat.not_lt_zero _)) hb'
              obtain ⟨c1, c2⟩ := RepS.adopt b1 ro' n0 a1 a3 a2
              refine h4 (.ref p) H' _ (b2.trans c2) c1 ⟨p, rfl, ?_⟩
              show (g.m ++ [p])[S.length]? = some p
              rw [← h1.len]; simp
            · rw [if_neg hb'] at h4; exact h4.elim
          | _ => exact h4.elim
      | _ => exact h4.elim
  · rw [if_neg hbl] at h4
    exact h4.elim⟩
end
end MX
end
section
namespace MX
open PySem PySem.Spec PyProof.Rows L2
section
variable {K : PySem.W.Frag} {mg : MP} {g g' : Gh} {S : Sto} {H : Hp} {sp : Sl} {σ : L2.St}
theorem RepE.forget (h : RepE K g sp σ) (vs : List Nat) : RepE K g (wipeP sp vs) σ := ⟨by rw [wipeP_length]; exact h.len, fun i x e => h.get i x (wipeP_some e).1⟩
/-- a list of the store, from now on as it is -/
theorem RepS.freezeAt {k : Nat} {xs : List PV} {p : Addr} {ws : List V} (h : RepS K mg g S H) (e : S[k]? = some (.lst xs)) (em : g.m[k]? = some p) (eh : H p = some (.lst ws)) :
    RepS K mg ⟨upd g.fz p (.lst ws), g.m, g.rs, g.tb⟩ (S.set k .dead) H ∧ g.le ⟨upd g.fz p (.lst ws), g.m, g.rs, g.tb⟩ := by
  have n0 : SO.lst xs ≠ .dead := by intro z; cases z
  have pf := h.nofz k _ p e n0 em
  have l : g.le ⟨upd g.fz p (.lst ws), g.m, g.rs, g.tb⟩ := ⟨fun a o q => by
    show upd g.fz p (.lst ws) a = some o
    rw [upd_ne (fun z => by subst z; rw [pf] at q; cases q)]; exact q, fun _ _ q => q, rfl, rfl⟩
  have cs : ∀ {i : Nat} {so : SO}, (S.set k .dead)[i]? = some so → so ≠ .dead → i ≠ k ∧ S[i]? = some so := fun {i so} q n => by
    by_cases hi : k = i
    · subst hi
      rw [List.getElem?_set_self (List.getElem?_eq_some_iff.mp e).1] at q
      exact absurd (Option.some.inj q).symm n
    · rw [List.getElem?_set_ne hi] at q
      exact ⟨fun z => hi z.symm, q⟩
  refine ⟨⟨fun a o q => ?_, by simp [h.len], fun i so a e1 e2 => ?_, fun i so a e1 n e2 => ?_, fun i j s1 s2 a e1 n1 e2 n2 e3 e4 => h.inj i j s1 s2 a (cs e1 n1).2 n1 (cs e2 n2).2 n2 e3 e4, fun a o q => ?_, fun q hq => ⟨(h.tb q hq).1, (upd_ne (tabS_ne (h.tb q hq).1 fun ps z => by rw [eh] at z; cases z)).trans (h.tb q hq).2.1, (h.tb q hq).2.2⟩⟩, l⟩
  · have q' : upd g.fz p (.lst ws) a = some o := q
    by_cases ha : a = p
    · subst ha; rw [upd_same] at q'; cases q'; exact eh
    · rw [upd_ne ha] at q'; exact h.fz a o q'
  · rcases dead_or so with z | z
    · subst z; trivial
    · exact (h.ob i so a (cs e1 z).2 e2).mono l
  · show upd g.fz p (.lst ws) a = none
    obtain ⟨c1, c2⟩ := cs e1 n
    rw [upd_ne (fun z => by subst z; exact c1 (h.inj i k so _ a c2 n e n0 e2 em))]
    exact h.nofz i so a c2 n e2
  · obtain ⟨r1, r2, r3⟩ := h.rs a o q
    refine ⟨r1, ?_, fun i so e1 n e2 => r3 i so (cs e1 n).2 n e2⟩
    show upd g.fz p (.lst ws) a = none
    rw [upd_ne (fun z => by subst z; exact r3 k _ e n0 em)]; exact r2
end
/-- slots forgotten ahead of a statement -/
def ssWp (vs : List Nat) (t : Ss) : Ss := fun sp S => t (wipeP sp vs) S
def slB (n : Nat) (sp : Sl) : Bool := sp.all fun o => match o with
  | some x => below n x
  | none => true
def scopeP (n : Nat) (vs : List Nat) (sp : Sl) (S : Sto) : Option (Sl × Sto) := if slB n (wipeP sp vs) = true ∧ n ≤ S.length ∧ (S.take n).all (belowO n) = true then some (wipeP sp vs, S.take n) else none
/-- behind a block its own slots and things are forgotten -/
def ssLoc (vs : List Nat) (t : Ss) : Ss := fun sp S => match t sp S with
  | .nx sp' S' => match scopeP S.length vs sp' S' with
    | some r => .nx r.1 r.2
    | none => .stuck
  | .ct sp' S' => match scopeP S.length vs sp' S' with
    | some r => .ct r.1 r.2
    | none => .stuck
  | .bk sp' S' => match scopeP S.length vs sp' S' with
    | some r => .bk r.1 r.2
    | none => .stuck
  | o => o
section
variable {K : PySem.W.Frag} {mg : MP} {g g' : Gh} {S S' : Sto} {H H' : Hp} {sp : Sl} {σ : L2.St}
theorem scope_rep {vs : List Nat} {r : Sl × Sto} (h : RepS K mg g S H) (l : g.le g') (h' : RepS K mg g' S' H') (e' : RepE K g' sp σ) (e : scopeP S.length vs sp S' = some r) :
    ∃ g'', g.le g'' ∧ RepS K mg g'' r.2 H' ∧ RepE K g'' r.1 σ := by
  unfold scopeP at e
  split at e
  · rename_i hc
    cases e
    obtain ⟨c1, c2, c3⟩ := hc
    refine ⟨⟨g'.fz, g'.m.take S.length, g'.rs, g'.tb⟩, ⟨l.fz, fun i a q => lt_take (l.m i a q) ?_, l.rs, l.tb⟩, h'.forget S.length (List.all_eq_true.mp c3), ?_⟩
    · have := (List.getElem?_eq_some_iff.mp q).1
      rw [h.len] at this; exact this
    · have f := e'.forget vs
      refine ⟨f.len, fun i x q => ?_⟩
      obtain ⟨v, q1, q2⟩ := f.get i x q
      have b := List.all_eq_true.mp c1 _ (List.mem_of_getElem? q)
      exact ⟨v, q1, RepV.cut (g := g') (g' := ⟨g'.fz, g'.m.take S.length, g'.rs, g'.tb⟩) (n := S.length) (fun _ _ e => e) (fun i a hi e => lt_take e hi) _ _ b q2⟩
  · cases e
end
section
variable {X : Cx} {st : Stmt} {body : List Stmt} {t : Ss}
theorem ss_wp (vs : List Nat) (h : PS X st (rdS X t)) : PS X st (rdS X (ssWp vs t)) := h.imp fun D σ H ⟨g, sp, S, hS, hE, p⟩ => ⟨g, wipeP sp vs, S, hS, hE.forget vs, p⟩
theorem ss_loc (vs : List Nat) (h : PSs X body (rdS X t)) : PSs X body (rdS X (ssLoc vs t)) := h.imp fun D σ H ⟨g, sp, S, hS, hE, p⟩ => by
  refine ⟨g, sp, S, hS, hE, ?_⟩
  unfold ssLoc at p
  cases ho : t sp S with
  | nx sp' S' =>
    rw [ho] at p
    simp only at p
    cases hc : scopeP S.length vs sp' S' with
    | none => rw [hc] at p; exact p.elim
    | some r =>
      rw [hc] at p
      intro σ' H' g' l q1 q2
      obtain ⟨g2, l2, r1, r2⟩ := scope_rep hS l q1 q2 hc
      exact p σ' H' g2 l2 r1 r2
  | ct sp' S' =>
    rw [ho] at p
    simp only at p
    cases hc : scopeP S.length vs sp' S' with
    | none => rw [hc] at p; exact p.elim
    | some r =>
      rw [hc] at p
      intro σ' H' g' l q1 q2
      obtain ⟨g2, l2, r1, r2⟩ := scope_rep hS l q1 q2 hc
      exact p σ' H' g2 l2 r1 r2
  | bk sp' S' =>
    rw [ho] at p
    simp only at p
    cases hc : scopeP S.length vs sp' S' with
    | none => rw [hc] at p; exact p.elim
    | some r =>
      rw [hc] at p
      intro σ' H' g' l q1 q2
      obtain ⟨g2, l2, r1, r2⟩ := scope_rep hS l q1 q2 hc
      exact p σ' H' g2 l2 r1 r2
  | rt v S' => rw [ho] at p; exact p
  | exc x sp' S' => rw [ho] at p; exact p
  | stuck => rw [ho] at p; exact p
/-- a local list read for the last time -/
def sxMove (i : Nat) : Sx := fun sp S => match sp[i]? with
  | some (some (.ref k)) => match S[k]? with
    | some (.lst xs) => if belows 0 xs = true then .ok (.lst xs) (S.set k .dead) else .stuck
    | _ => .stuck
  | _ => .stuck
/-- slots forgotten behind a block -/
def ssEnd (vs : List Nat) (t : Ss) : Ss := fun sp S => match t sp S with
  | .nx sp' S' => .nx (wipeP sp' vs) S'
  | .ct sp' S' => .ct (wipeP sp' vs) S'
  | .bk sp' S' => .bk (wipeP sp' vs) S'
  | o => o
theorem ss_end (vs : List Nat) (h : PSs X body (rdS X t)) : PSs X body (rdS X (ssEnd vs t)) := h.imp fun D σ H ⟨g, sp, S, hS, hE, p⟩ => by
  refine ⟨g, sp, S, hS, hE, ?_⟩
  unfold ssEnd at p
  cases ho : t sp S with
  | nx sp' S' => rw [ho] at p; exact fun σ' H' g' l q1 q2 => p σ' H' g' l q1 (q2.forget vs)
  | ct sp' S' => rw [ho] at p; exact fun σ' H' g' l q1 q2 => p σ' H' g' l q1 (q2.forget vs)
  | bk sp' S' => rw [ho] at p; exact fun σ' H' g' l q1 q2 => p σ' H' g' l q1 (q2.forget vs)
  | rt v S' => rw [ho] at p; exact p
  | exc x sp' S' => rw [ho] at p; exact p
  | stuck => rw [ho] at p; exact p
/-- a local list that nobody changes from now on -/
def ssFrz (i : Nat) (t : Ss) : Ss := fun sp S => match sxMove i sp S with
  | .ok v S1 => t (sp.set i (some v)) S1
  | _ => .stuck
theorem ss_frz (i : Nat) (h : PS X st (rdS X t)) : PS X st (rdS X (ssFrz i t)) := h.imp fun D σ H ⟨g, sp, S, hS, hE, p⟩ => by
  unfold ssFrz sxMove at p
  split at p
  · rename_i v S1 e0
    split at e0
    · rename_i k e
      split at e0
      · rename_i xs e2
        split at e0
        · rename_i hb
          cases e0
          obtain ⟨u, e1, q, rfl, em⟩ := hE.get i _ e
          obtain ⟨ws, eh, rw_⟩ := hS.ob k _ q e2 em
          obtain ⟨f1, f2⟩ := hS.freezeAt e2 em eh
          refine ⟨_, sp.set i (some (.lst xs)), _, f1, ?_, ?_⟩
          · refine ⟨by simp [hE.len], fun j x q' => ?_⟩
            by_cases hj : i = j
            · subst hj
              rw [List.getElem?_set_self (List.getElem?_eq_some_iff.mp e).1] at q'
              cases q'
              exact ⟨.ref q, e1, q, ws, rfl, .inl (.inl upd_same), RepVs.mono f2 _ _ rw_⟩
            · rw [List.getElem?_set_ne hj] at q'
              exact (hE.mono f2).get j x q'
          · cases ho : t (sp.set i (some (.lst xs))) (S.set k .dead) with
            | nx sp' S' => rw [ho] at p; exact fun σ' H' g' l => p σ' H' g' (f2.trans l)
            | ct sp' S' => rw [ho] at p; exact fun σ' H' g' l => p σ' H' g' (f2.trans l)
            | bk sp' S' => rw [ho] at p; exact fun σ' H' g' l => p σ' H' g' (f2.trans l)
            | rt v S' => rw [ho] at p; exact fun σ' H' g' l => p σ' H' g' (f2.trans l)
            | exc x sp' S' => rw [ho] at p; exact ExcT.mono (show ExcT X g sp' x S' from p) f2
            | stuck => rw [ho] at p; exact p
        · cases e0
      · cases e0
    · cases e0
  · exact p.elim
end
end MX
end
section
namespace MX
open PySem PySem.Spec PyProof.Rows L2
mutual
def sm : PV → Bool
  | .non => true
  | .bl _ => true
  | .int i => decide (i.natAbs < 10 ^ 18)
  | .str x => PyData.strOk x
  | .tup xs => sms xs
  | .lst xs => sms xs
  | .ref _ => false
  | .adr _ _ _ => false
  | .dic _ _ => false
def sms : List PV → Bool
  | [] => true
  | x :: xs => sm x && sms xs
end
mutual
def wt : PV → Nat
  | .non => 4
  | .bl _ => 5
  | .int _ => 20
  | .str x => 10 * x.length + 2
  | .tup xs => wts xs + 3
  | .lst xs => wts xs + 3
  | .ref _ => 0
  | .adr _ _ _ => 0
  | .dic _ _ => 0
def wts : List PV → Nat
  | [] => 0
  | x :: xs => wt x + 2 + wts xs
end
mutual
def dp : PV → Nat
  | .tup xs => dps xs + 1
  | .lst xs => dps xs + 1
  | _ => 0
def dps : List PV → Nat
  | [] => 0
  | x :: xs => max (dp x) (dps xs)
end
mutual
/-- the data itself -/
def dt : PV → PyData
  | .non => .none
  | .bl b => .bool b
  | .int i => .int i
  | .str x => .str x
  | .tup xs => .tuple (dts xs)
  | .lst xs => .list (dts xs)
  | .ref _ => .none
  | .adr _ _ _ => .none
  | .dic _ _ => .none
def dts : List PV → List PyData
  | [] => []
  | x :: xs => dt x :: dts xs
end
theorem sms_all : ∀ {xs : List PV}, sms xs = true ↔ ∀ x ∈ xs, sm x = true
  | [] => by simp [sms]
  | x :: xs => by simp [sms, sms_all (xs := xs)]
theorem text_len {i : Int} (h : i.natAbs < 10 ^ 18) : (Str.ofString (toString i)).length ≤ 19 := by
  by_cases h0 : 0 ≤ i
  · exact Nat.le_trans (toString_length_le (k := 18) h0 (by decide) (by omega)) (by decide)
  · have h1 : i < 0 := by omega
    have h2 := len_text_negI h1
    have h3 := toString_length_le (v := 0 - i) (k := 18) (by omega) (by decide) (by omega)
    omega
theorem textFrom_le : ∀ (ts : List Str) (k : Nat) (acc : Str), (PySem.textFrom k acc ts).length ≤ acc.length + PySem.piled ts
  | [], k, acc => Nat.le_add_right _ _
  | t :: ts, k, acc => by
    have := textFrom_le ts (k + 1) (acc ++ (if k > 0 then ", " else "" : String) ++ t)
    rw [PySem.piled_cons]
    have e : (acc ++ (if k > 0 then ", " else "" : String) ++ t).length ≤ acc.length + 2 + t.length := by
      rw [strLen_append, strLen_append]
      by_cases hk : k > 0
      · rw [if_pos hk]
        have : (Str.ofString ", ").length = 2 := rfl
        omega
      · rw [if_neg hk]
        have : (Str.ofString "").length = 0 := rfl
        omega
    show (PySem.textFrom (k + 1) _ ts).length ≤ _
    omega
theorem listText_le (ts : List Str) : (PySem.listText ts).length ≤ PySem.piled ts + 2 := by
  unfold PySem.listText
  rw [strLen_append]
  have := textFrom_le ts 0 "["
  have e1 : (Str.ofString "[").length = 1 := rfl
  have e2 : (Str.ofString "]").length = 1 := rfl
  omega
theorem tupleText_le (ts : List Str) : (PySem.tupleText ts).length ≤ PySem.piled ts + 3 := by
  unfold PySem.tupleText
  rw [strLen_append, strLen_append]
  have e1 : (Str.ofString "(").length = 1 := rfl
  have e2 : (Str.ofString (if ts.length == 1 then ",)" else ")")).length ≤ 2 := by split <;> decide
  have e3 : (Str.join ", " ts).length ≤ PySem.piled ts := by
    cases ts with
    | nil => exact Nat.zero_le _
    | cons a r => have := PySem.join_length_add (a :: r) (by simp); omega
  omega
mutual
theorem sm_ok : ∀ (v : PV), sm v = true → toD v = some (dt v) ∧ (dt v).showable = true ∧ (dt v).canLay0 = true ∧ (dt v).depth ≤ dp v ∧ (dt v).shown.length ≤ wt v
  | .non, _ => ⟨rfl, rfl, rfl, Nat.le_refl _, by show (Str.ofString "None").length ≤ 4; decide⟩
  | .bl b, _ => ⟨rfl, rfl, rfl, Nat.le_refl _, by cases b <;> decide⟩
  | .int i, h => by
    have h' : i.natAbs < 10 ^ 18 := of_decide_eq_true (by simpa only [sm] using h)
    refine ⟨rfl, ?_, rfl, Nat.le_refl _, Nat.le_trans (text_len h') (by simp [wt])⟩
    show decide (i.natAbs.log2 < 1920) = true
    refine decide_eq_true ?_
    by_cases h0 : i.natAbs = 0
    · rw [h0]; decide
    · refine (Nat.log2_lt h0).mpr (Nat.lt_of_lt_of_le h' ?_)
      exact Nat.le_trans (by decide : 10 ^ 18 ≤ 2 ^ 60) (Nat.pow_le_pow_right (by decide) (by decide))
  | .str x, h => by
    have h' : PyData.strOk x = true := by simpa only [sm] using h
    refine ⟨rfl, rfl, ?_, Nat.le_refl _, ?_⟩
    · simpa only [dt, PyData.canLay0] using h'
    · have := StrLaws.reprText_len x fun c hc => by
        have := Array.all_eq_true'.mp h' c (Array.mem_toList_iff.mp hc)
        have := of_decide_eq_true this
        omega
      simpa only [wt, dt, PyData.shown] using this
  | .tup xs, h => by
    obtain ⟨h1, h2, h3, h4, h5⟩ := sms_ok xs (by simpa only [sm] using h)
    refine ⟨by rw [toD, h1]; rfl, by simpa only [dt, PyData.showable] using h2, by simpa only [dt, PyData.canLay0] using h3, ?_, ?_⟩
    · simp only [dt, PyData.depth, dp]; omega
    · simp only [dt, PyData.shown, wt]
      exact Nat.le_trans (tupleText_le _) (by omega)
  | .lst xs, h => by
    obtain ⟨h1, h2, h3, h4, h5⟩ := sms_ok xs (by simpa only [sm] using h)
    refine ⟨by rw [toD, h1]; rfl, by simpa only [dt, PyData.showable] using h2, by simpa only [dt, PyData.canLay0] using h3, ?_, ?_⟩
    · simp only [dt, PyData.depth, dp]; omega
    · simp only [dt, PyData.shown, wt]
      exact Nat.le_trans (listText_le _) (by omega)
  | .ref _, h => by simp [sm] at h
  | .adr _ _ _, h => by simp [sm] at h
  | .dic _ _, h => by simp [sm] at h
theorem sms_ok : ∀ (xs : List PV), sms xs = true → toDs xs = some (dts xs) ∧ PyData.showableAll (dts xs) = true ∧ PyData.canLayAll0 (dts xs) = true ∧ PyData.depthAll (dts xs) ≤ dps xs ∧ PySem.piled (PyData.shownAll (dts xs)) ≤ wts xs
  | [], _ => ⟨rfl, rfl, rfl, Nat.le_refl _, Nat.le_refl _⟩
  | x :: xs, h => by
    have h' : sm x = true ∧ sms xs = true := by simpa only [sms, Bool.and_eq_true] using h
    obtain ⟨a1, a2, a3, a4, a5⟩ := sm_ok x h'.1
    obtain ⟨b1, b2, b3, b4, b5⟩ := sms_ok xs h'.2
    refine ⟨by rw [toDs, a1, b1]; rfl, by simp only [dts, PyData.showableAll, a2, b2]; rfl, by simp only [dts, PyData.canLayAll0, a3, b3]; rfl, ?_, ?_⟩
    · simp only [dts, PyData.depthAll, dps]; omega
    · simp only [dts, PyData.shownAll, PySem.piled_cons, wts]; omega
end
mutual
theorem eqv_self : ∀ d : PyData, d.canLay0 = true → PyData.eqv d d = true
  | .none, _ => rfl
  | .bool b, _ => by simp [PyData.eqv]
  | .int i, _ => by simp [PyData.eqv]
  | .str x, _ => by simp [PyData.eqv]
  | .list xs, h => by rw [PyData.eqv]; exact eqvAll_self xs (by simpa only [PyData.canLay0] using h)
  | .tuple xs, h => by rw [PyData.eqv]; exact eqvAll_self xs (by simpa only [PyData.canLay0] using h)
  | .dict _, h => by simp [PyData.canLay0] at h
theorem eqvAll_self : ∀ xs : List PyData, PyData.canLayAll0 xs = true → PyData.eqvAll xs xs = true
  | [], _ => rfl
  | x :: xs, h => by
    have h' : x.canLay0 = true ∧ PyData.canLayAll0 xs = true := by simpa only [PyData.canLayAll0, Bool.and_eq_true] using h
    rw [PyData.eqvAll, eqv_self x h'.1, eqvAll_self xs h'.2]; rfl
end
theorem forL_inv {t : Sg} {b : Ss} (I : Nat → Sl → Sto → Prop) : ∀ (xs : List PV) (i : Nat) (sp : Sl) (S : Sto),
    (∀ j x sp S, xs[j]? = some x → I (i + j) sp S → ∃ sp1 sp' S', t x sp S = some sp1 ∧ (b sp1 S = .nx sp' S' ∨ b sp1 S = .ct sp' S') ∧ I (i + j + 1) sp' S') → I i sp S →
    ∃ sp' S', forL t b xs sp S = .nx sp' S' ∧ I (i + xs.length) sp' S'
  | [], i, sp, S, _, h0 => ⟨sp, S, rfl, h0⟩
  | x :: xs, i, sp, S, h, h0 => by
    obtain ⟨sp1, sp', S', e1, e2, h1⟩ := h 0 x sp S rfl h0
    obtain ⟨sp2, S2, e3, h2⟩ := forL_inv I xs (i + 1) sp' S' (fun j y sp S hy hj => by
      have := h (j + 1) y sp S (by simpa using hy) (by rw [show i + (j + 1) = i + 1 + j by omega]; exact hj)
      rw [show i + (j + 1) + 1 = i + 1 + j + 1 by omega] at this
      exact this) h1
    refine ⟨sp2, S2, ?_, by rw [List.length_cons, show i + (xs.length + 1) = i + 1 + xs.length by omega]; exact h2⟩
    simp only [forL, e1]
    rcases e2 with e2 | e2 <;> rw [e2] <;> exact e3
/-- from the first turn on -/
theorem forL_inv0 {t : Sg} {b : Ss} (I : Nat → Sl → Sto → Prop) {xs : List PV} {sp : Sl} {S : Sto} (h0 : I 0 sp S)
    (h : ∀ j x sp S, xs[j]? = some x → I j sp S → ∃ sp1 sp' S', t x sp S = some sp1 ∧ (b sp1 S = .nx sp' S' ∨ b sp1 S = .ct sp' S') ∧ I (j + 1) sp' S') :
    ∃ sp' S', forL t b xs sp S = .nx sp' S' ∧ I xs.length sp' S' := by
  have := forL_inv I xs 0 sp S (fun j x sp S hx hj => by rw [Nat.zero_add] at hj ⊢; exact h j x sp S hx hj) h0
  rwa [Nat.zero_add] at this
theorem lcL_map {α : Type} {sp : Sl} {t : Sg} {c : St'} {te : Sx} {S : Sto} (emb f : α → PV) (p : α → Bool) : ∀ l : List α,
    (∀ a ∈ l, ∃ sp1, t (emb a) sp S = some sp1 ∧ c sp1 S = .ok (p a) S ∧ (p a = true → te sp1 S = .ok (f a) S)) → lcL sp t c te (l.map emb) S = .ok ((l.filter p).map f) S
  | [], _ => rfl
  | a :: l, h => by
    obtain ⟨sp1, e1, e2, e3⟩ := h a (List.mem_cons_self ..)
    have ih := lcL_map emb f p l fun x hx => h x (List.mem_cons_of_mem _ hx)
    simp only [List.map_cons, lcL, e1, e2, Out.pure]
    cases hp : p a with
    | true => simp [e3 hp, ih, hp]
    | false => simp [ih, hp]
section
variable {α β : Type}
@[simp ↓] theorem bind_m (o : Out α) (f : α → Sto → Out β) : Out.bind o f = (match o with
  | .ok a S => f a S
  | .exc x S => .exc x S
  | .stuck => .stuck) := rfl
@[simp ↓] theorem pure_m (o : Out α) (f : α → Sto → Out β) : Out.pure o f = (match o with
  | .ok a S => f a S
  | _ => .stuck) := rfl
@[simp ↓] theorem of_m (o : Option (α × Sto)) : Out.of o = (match o with
  | some (a, S) => .ok a S
  | none => .stuck) := rfl
@[simp ↓] theorem bindS_m (o : Out α) (sp : Sl) (f : α → Sto → SOut) : bindS o sp f = (match o with
  | .ok a S => f a S
  | .exc x S => .exc x sp S
  | .stuck => .stuck) := rfl
end
@[simp] theorem wipeP_0 (sp : Sl) : wipeP sp [] = sp := rfl
@[simp] theorem wipeP_1 (sp : Sl) (v : Nat) (vs : List Nat) : wipeP sp (v :: vs) = (wipeP sp vs).set v none := rfl
@[simp] theorem listOf_lst (S : Sto) (xs : List PV) : listOf S (.lst xs) = some xs := rfl
@[simp] theorem seqOf_lst (S : Sto) (xs : List PV) : seqOf S (.lst xs) = some xs := rfl
@[simp] theorem seqOf_tup (S : Sto) (xs : List PV) : seqOf S (.tup xs) = some xs := rfl
structure Fits (n : Nat) : Prop where
  h : n ≤ sizeLine
noncomputable instance (n : Nat) : Decidable (Fits n) := Classical.propDecidable _
theorem fits_of {n : Nat} (h : n ≤ 100000) : Fits n := ⟨Nat.le_trans h (by decide)⟩
theorem fits_ite {α : Type} {n : Nat} {x y : α} : (if n ≤ sizeLine then x else y) = if Fits n then x else y := by
  by_cases h : n ≤ sizeLine
  · rw [if_pos h, if_pos ⟨h⟩]
  · rw [if_neg h, if_neg fun q => h q.h]
@[simp] theorem fits_0 : Fits 0 := fits_of (by decide)
@[simp] theorem fits_1 : Fits 1 := fits_of (by decide)
@[simp] theorem fits_2 : Fits 2 := fits_of (by decide)
@[simp] theorem fits_3 : Fits 3 := fits_of (by decide)
@[simp] theorem fits_4 : Fits 4 := fits_of (by decide)
@[simp] theorem fits_5 : Fits 5 := fits_of (by decide)
@[simp] theorem fits_6 : Fits 6 := fits_of (by decide)
@[simp] theorem fits_7 : Fits 7 := fits_of (by decide)
@[simp] theorem fits_8 : Fits 8 := fits_of (by decide)
@[simp] theorem fits_9 : Fits 9 := fits_of (by decide)
@[simp] theorem fits_10 : Fits 10 := fits_of (by decide)
@[simp] theorem fits_11 : Fits 11 := fits_of (by decide)
@[simp] theorem fits_12 : Fits 12 := fits_of (by decide)
@[simp] theorem fits_13 : Fits 13 := fits_of (by decide)
@[simp] theorem fits_14 : Fits 14 := fits_of (by decide)
@[simp] theorem fits_15 : Fits 15 := fits_of (by decide)
@[simp] theorem fits_16 : Fits 16 := fits_of (by decide)
@[simp] theorem fits_17 : Fits 17 := fits_of (by decide)
@[simp] theorem fits_18 : Fits 18 := fits_of (by decide)
@[simp] theorem fits_19 : Fits 19 := fits_of (by decide)
@[simp] theorem fits_20 : Fits 20 := fits_of (by decide)
@[simp] theorem fits_21 : Fits 21 := fits_of (by decide)
@[simp] theorem fits_22 : Fits 22 := fits_of (by decide)
@[simp] theorem fits_23 : Fits 23 := fits_of (by decide)
@[simp] theorem fits_24 : Fits 24 := fits_of (by decide)
@[simp] theorem fits_25 : Fits 25 := fits_of (by decide)
@[simp] theorem fits_26 : Fits 26 := fits_of (by decide)
@[simp] theorem fits_27 : Fits 27 := fits_of (by decide)
@[simp] theorem fits_28 : Fits 28 := fits_of (by decide)
@[simp] theorem fits_29 : Fits 29 := fits_of (by decide)
@[simp] theorem fits_30 : Fits 30 := fits_of (by decide)
@[simp] theorem fits_31 : Fits 31 := fits_of (by decide)
@[simp] theorem fits_32 : Fits 32 := fits_of (by decide)
@[simp ↓] theorem s_bodyF (n : Nat) (t : Ss) (as : List PV) (S : Sto) : bodyF n t as S = (match t (startP n as) S with
  | .rt v S' => .ok v S'
  | .nx _ S' => .ok .non S'
  | .exc x _ S' => .exc x S'
  | _ => .stuck) := rfl
@[simp ↓] theorem s_startP (n : Nat) (as : List PV) : startP n as  = (as.map some ++ List.replicate (n - as.length) none) := rfl
@[simp ↓] theorem s_ssNil (sp : Sl) (S : Sto) : ssNil  sp S = (.nx sp S) := rfl
@[simp ↓] theorem s_ssSeq (t u : Ss) (sp : Sl) (S : Sto) : ssSeq t u sp S = (match t sp S with
  | .nx sp' S' => u sp' S'
  | o => o) := rfl
@[simp ↓] theorem s_ssBreak (sp : Sl) (S : Sto) : ssBreak  sp S = (.bk sp S) := rfl
@[simp ↓] theorem s_ssCont (sp : Sl) (S : Sto) : ssCont  sp S = (.ct sp S) := rfl
@[simp ↓] theorem s_ssExpr (te : Sx) (sp : Sl) (S : Sto) : ssExpr te sp S = (bindS (te sp S) sp fun _ S1 => .nx sp S1) := rfl
@[simp ↓] theorem s_ssRet (te : Sx) (sp : Sl) (S : Sto) : ssRet te sp S = (bindS (te sp S) sp fun v S1 => .rt v S1) := rfl
@[simp ↓] theorem s_ssRetN (u0 : Sl) (S : Sto) : ssRetN  u0 S = (.rt .non S) := rfl
@[simp ↓] theorem s_ssIf (c : St') (t u : Ss) (sp : Sl) (S : Sto) : ssIf c t u sp S = (bindS (c sp S) sp fun k S1 => if k = true then t sp S1 else u sp S1) := rfl
@[simp ↓] theorem s_ssSet (i : Nat) (te : Sx) (sp : Sl) (S : Sto) : ssSet i te sp S = (bindS (te sp S) sp fun v S1 => .nx (sp.set i (some v)) S1) := rfl
@[simp ↓] theorem s_ssAsg (te : Sx) (t : Sg) (sp : Sl) (S : Sto) : ssAsg te t sp S = (bindS (te sp S) sp fun v S1 => match t v sp S1 with
  | some sp' => .nx sp' S1
  | none => .stuck) := rfl
@[simp ↓] theorem s_ssPar (i j : Nat) (ta : Sa) (sp : Sl) (S : Sto) : ssPar i j ta sp S = (bindS (ta sp S) sp fun vs S1 => match vs with
  | [v, w] => .nx ((sp.set i (some v)).set j (some w)) S1
  | _ => .stuck) := rfl
@[simp ↓] theorem s_ssFor (ti : Si) (t : Sg) (b : Ss) (sp : Sl) (S : Sto) : ssFor ti t b sp S = (bindS (ti sp S) sp fun src S1 => match src with
  | .items xs => forL t b xs sp S1
  | src => match srcGet src S1 with
    | none => .stuck
    | some xs => forG (srcGet src) t b xs.length 0 sp S1) := rfl
@[simp ↓] theorem s_ssSub (to ti te : Sx) (sp : Sl) (S : Sto) : ssSub to ti te sp S = (bindS (te sp S) sp fun v S1 => bindS (to sp S1) sp fun o S2 => bindS (ti sp S2) sp fun i S3 => match vSet o i v S3 with
  | some S4 => .nx sp S4
  | none => .stuck) := rfl
@[simp ↓] theorem s_ssAug (k : Nat) (op : V2) (te : Sx) (sp : Sl) (S : Sto) : ssAug k op te sp S = (match sp[k]? with
  | some (some x) => bindS (te sp S) sp fun y S1 => bindS (.of (op x y S1)) sp fun z S2 => .nx (sp.set k (some z)) S2
  | _ => .stuck) := rfl
@[simp ↓] theorem s_ssAugSub (op : V2) (to ti te : Sx) (sp : Sl) (S : Sto) : ssAugSub op to ti te sp S = (bindS (to sp S) sp fun o S1 => bindS (ti sp S1) sp fun i S2 => bindS (.of (vItemL o i S2)) sp fun x S3 => bindS (te sp S3) sp fun y S4 => bindS (.of (op x y S4)) sp fun z S5 => match vSet o i z S5 with
  | some S6 => .nx sp S6
  | none => .stuck) := rfl
@[simp ↓] theorem s_ssWhile (f : Nat) (c : St') (b : Ss) (sp : Sl) (S : Sto) : ssWhile f c b sp S = (whileN c b f sp S) := rfl
@[simp ↓] theorem s_sxVar (i : Nat) (sp : Sl) (S : Sto) : sxVar i sp S = (match sp[i]? with
  | some (some v) => .ok v S
  | _ => .stuck) := rfl
@[simp ↓] theorem s_sxC (v : PV) (u0 : Sl) (S : Sto) : sxC v u0 S = (.ok v S) := rfl
@[simp ↓] theorem s_sx1 (o : V1) (ta : Sx) (sp : Sl) (S : Sto) : sx1 o ta sp S = ((ta sp S).bind fun a S1 => .of (o a S1)) := rfl
@[simp ↓] theorem s_sx2 (o : V2) (ta tb : Sx) (sp : Sl) (S : Sto) : sx2 o ta tb sp S = ((ta sp S).bind fun a S1 => (tb sp S1).bind fun b S2 => .of (o a b S2)) := rfl
@[simp ↓] theorem s_stB (t : Sx) (sp : Sl) (S : Sto) : stB t sp S = ((t sp S).bind fun v S1 => match v with
  | .bl b => .ok b S1
  | _ => .stuck) := rfl
@[simp ↓] theorem s_sxChain (o o' : V2) (ta tb tc : Sx) (sp : Sl) (S : Sto) : sxChain o o' ta tb tc sp S = ((ta sp S).bind fun a S1 => (tb sp S1).bind fun b S2 => (Out.of (o a b S2)).bind fun z S3 => match z with
  | .bl true => (tc sp S3).bind fun c S4 => .of (o' b c S4)
  | .bl false => .ok (.bl false) S3
  | _ => .stuck) := rfl
@[simp ↓] theorem s_stAnd (t u : St') (sp : Sl) (S : Sto) : stAnd t u sp S = ((t sp S).bind fun c S1 => if c = true then u sp S1 else .ok false S1) := rfl
@[simp ↓] theorem s_stOr (t u : St') (sp : Sl) (S : Sto) : stOr t u sp S = ((t sp S).bind fun c S1 => if c = true then .ok true S1 else u sp S1) := rfl
@[simp ↓] theorem s_stNot (t : St') (sp : Sl) (S : Sto) : stNot t sp S = ((t sp S).bind fun c S1 => .ok (!c) S1) := rfl
@[simp ↓] theorem s_sxAnd (ta tb : Sx) (sp : Sl) (S : Sto) : sxAnd ta tb sp S = ((ta sp S).bind fun v S1 => match v with
  | .bl true => tb sp S1
  | .bl false => .ok (.bl false) S1
  | _ => .stuck) := rfl
@[simp ↓] theorem s_sxOr (ta tb : Sx) (sp : Sl) (S : Sto) : sxOr ta tb sp S = ((ta sp S).bind fun v S1 => match v with
  | .bl true => .ok (.bl true) S1
  | .bl false => tb sp S1
  | _ => .stuck) := rfl
@[simp ↓] theorem s_sxNot (ta : Sx) (sp : Sl) (S : Sto) : sxNot ta sp S = ((ta sp S).bind fun v S1 => match v with
  | .bl k => .ok (.bl (!k)) S1
  | _ => .stuck) := rfl
@[simp ↓] theorem s_sxIf (t : St') (ta tb : Sx) (sp : Sl) (S : Sto) : sxIf t ta tb sp S = ((t sp S).bind fun c S1 => if c = true then ta sp S1 else tb sp S1) := rfl
@[simp ↓] theorem s_saNil (u0 : Sl) (S : Sto) : saNil  u0 S = (.ok [] S) := rfl
@[simp ↓] theorem s_saCons (ta : Sx) (tr : Sa) (sp : Sl) (S : Sto) : saCons ta tr sp S = ((ta sp S).bind fun a S1 => (tr sp S1).bind fun as S2 => .ok (a :: as) S2) := rfl
@[simp ↓] theorem s_sxN (o : VN) (t : Sa) (sp : Sl) (S : Sto) : sxN o t sp S = ((t sp S).bind fun as S1 => .of (o as S1)) := rfl
@[simp ↓] theorem s_sxCall (n : Nat) (sem : Fs) (tr : Sa) (sp : Sl) (S : Sto) : sxCall n sem tr sp S = ((tr sp S).bind fun as S1 => if as.length = n then sem as S1 else .stuck) := rfl
@[simp ↓] theorem s_sgName (i : Nat) (v : PV) (sp : Sl) (u2 : Sto) : sgName i v sp u2 = (some (sp.set i (some v))) := rfl
@[simp ↓] theorem s_sgNil (vs : List PV) (sp : Sl) (u2 : Sto) : sgNil  vs sp u2 = (match vs with
  | [] => some sp
  | _ :: _ => none) := rfl
@[simp ↓] theorem s_sgCons (t : Sg) (u : Sgs) (vs : List PV) (sp : Sl) (S : Sto) : sgCons t u vs sp S = (match vs with
  | [] => none
  | v :: r => (t v sp S).bind fun sp1 => u r sp1 S) := rfl
@[simp ↓] theorem s_sgTup (n : Nat) (t : Sgs) (v : PV) (sp : Sl) (S : Sto) : sgTup n t v sp S = (match v with
  | .tup xs => if xs.length = n then t xs sp S else none
  | _ => none) := rfl
@[simp ↓] theorem s_soNo (u0 : Sl) (S : Sto) : soNo  u0 S = (.ok none S) := rfl
@[simp ↓] theorem s_soPart (t : Sx) (sp : Sl) (S : Sto) : soPart t sp S = ((t sp S).bind fun v S1 => match v with
  | .int i => .ok (some i) S1
  | _ => .stuck) := rfl
@[simp ↓] theorem s_sxSl (o : VS) (ta : Sx) (tl th : So) (sp : Sl) (S : Sto) : sxSl o ta tl th sp S = ((ta sp S).bind fun a S1 => (tl sp S1).bind fun lo S2 => (th sp S2).bind fun hi S3 => .of (o a lo hi S3)) := rfl
@[simp ↓] theorem s_sxMt (chk : Sto → PV → Bool) (o : VM) (ta : Sx) (tr : Sa) (sp : Sl) (S : Sto) : sxMt chk o ta tr sp S = ((ta sp S).bind fun a S1 => if chk S1 a = true then (tr sp S1).bind fun as S2 => .of (o a as S2) else .stuck) := rfl
@[simp ↓] theorem s_sxMt0 (chk : Sto → PV → Bool) (o : VM) (ta : Sx) (sp : Sl) (S : Sto) : sxMt0 chk o ta sp S = ((ta sp S).bind fun a S1 => if chk S1 a = true then .of (o a [] S1) else .stuck) := rfl
@[simp ↓] theorem s_sxLc (fin : VN) (ti : Si) (vs : List Nat) (t : Sg) (c : St') (te : Sx) (sp : Sl) (S : Sto) : sxLc fin ti vs t c te sp S = ((ti sp S).bind fun src S1 => (lcRun src (wipeP sp vs) t c te S1).pure fun ys S2 => .of (fin ys S2)) := rfl
@[simp ↓] theorem s_lcRun (src : Src) (sp : Sl) (t : Sg) (c : St') (te : Sx) (S : Sto) : lcRun src sp t c te S  = (match src with
  | .items xs => lcL sp t c te xs S
  | src => match srcGet src S with
    | none => .stuck
    | some xs => lcG (srcGet src) sp t c te xs.length 0 S) := rfl
@[simp ↓] theorem s_siSeq (te : Sx) (sp : Sl) (S : Sto) : siSeq te sp S = ((te sp S).bind srcOf) := rfl
@[simp ↓] theorem s_srcOf (v : PV) (S1 : Sto) : srcOf v S1  = (match v with
  | .tup xs => .ok (.items xs) S1
  | .lst xs => .ok (.items xs) S1
  | .str z => .ok (.items (charsOf z)) S1
  | .ref n => match listOf S1 (.ref n) with
    | some _ => .ok (.live n) S1
    | none => .stuck
  | _ => .stuck) := rfl
@[simp ↓] theorem s_siRange1 (ta : Sx) (sp : Sl) (S : Sto) : siRange1 ta sp S = ((ta sp S).bind fun v S1 => match v with
  | .int j => if RngOk j then .ok (.items (rngP 0 j.toNat)) S1 else .stuck
  | _ => .stuck) := rfl
@[simp ↓] theorem s_siRange2 (ta tb : Sx) (sp : Sl) (S : Sto) : siRange2 ta tb sp S = ((ta sp S).bind fun v S1 => (tb sp S1).bind fun w S2 => match v, w with
  | .int i, .int j => if RngOk i ∧ RngOk j then .ok (.items (rngP i (j - i).toNat)) S2 else .stuck
  | _, _ => .stuck) := rfl
@[simp ↓] theorem s_siEnum (te : Sx) (sp : Sl) (S : Sto) : siEnum te sp S = ((te sp S).bind srcEnum) := rfl
@[simp ↓] theorem s_srcEnum (v : PV) (S1 : Sto) : srcEnum v S1  = (match v with
  | .tup xs => .ok (.items (enumP 0 xs)) S1
  | .lst xs => .ok (.items (enumP 0 xs)) S1
  | .ref n => match listOf S1 (.ref n) with
    | some _ => .ok (.liveE n) S1
    | none => .stuck
  | _ => .stuck) := rfl
@[simp ↓] theorem s_stYes (u0 : Sl) (S : Sto) : stYes  u0 S = (.ok true S) := rfl
@[simp ↓] theorem s_vTup (as : List PV) (S : Sto) : vTup  as S = (if Fits as.length then some (.tup as, S) else none) := fits_ite
@[simp ↓] theorem s_vLst (as : List PV) (S : Sto) : vLst  as S = (if Fits as.length then some (.lst as, S) else none) := fits_ite
@[simp ↓] theorem s_vNew (as : List PV) (S : Sto) : vNew  as S = (if Fits as.length then some (.ref S.length, S ++ [.lst as]) else none) := fits_ite
@[simp ↓] theorem s_fzL (ys : List PV) (S : Sto) : fzL  ys S = (if Fits ys.length then some (.lst ys, S) else none) := fits_ite
@[simp ↓] theorem s_nwL (ys : List PV) (S : Sto) : nwL  ys S = (if Fits ys.length then some (.ref S.length, S ++ [.lst ys]) else none) := fits_ite
@[simp ↓] theorem s_vInt (as : List PV) (S : Sto) : vInt  as S = (match as with
  | [.int i] => some (.int i, S)
  | [.bl k] => some (.int (if k then 1 else 0), S)
  | _ => none) := rfl
@[simp ↓] theorem s_vLt (a : PV) (b : PV) (S : Sto) : vLt  a b S = (match a, b with
  | .int i, .int j => some (.bl (decide (i < j)), S)
  | _, _ => none) := rfl
@[simp ↓] theorem s_vLe (a : PV) (b : PV) (S : Sto) : vLe  a b S = (match a, b with
  | .int i, .int j => some (.bl (decide (i ≤ j)), S)
  | _, _ => none) := rfl
@[simp ↓] theorem s_vGt (a : PV) (b : PV) (S : Sto) : vGt  a b S = (match a, b with
  | .int i, .int j => some (.bl (decide (j < i)), S)
  | _, _ => none) := rfl
@[simp ↓] theorem s_vGe (a : PV) (b : PV) (S : Sto) : vGe  a b S = (match a, b with
  | .int i, .int j => some (.bl (decide (j ≤ i)), S)
  | _, _ => none) := rfl
@[simp ↓] theorem s_vIsN (a : PV) (b : PV) (S : Sto) : vIsN  a b S = (match a, b with
  | .non, .non => some (.bl true, S)
  | _, .non => some (.bl false, S)
  | _, _ => none) := rfl
@[simp ↓] theorem s_vIsNotN (a : PV) (b : PV) (S : Sto) : vIsNotN  a b S = (match a, b with
  | .non, .non => some (.bl false, S)
  | _, .non => some (.bl true, S)
  | _, _ => none) := rfl
@[simp ↓] theorem s_vSub (a : PV) (b : PV) (S : Sto) : vSub  a b S = (match a, b with
  | .int i, .int j => some (.int (i - j), S)
  | _, _ => none) := rfl
@[simp ↓] theorem s_isL (S : Sto) (a : PV) : isL S a  = ((listOf S a).isSome) := rfl
@[simp ↓] theorem s_vMin2 (as : List PV) (S : Sto) : vMin2  as S = (match as with
  | [.int i, .int j] => some (.int (if j < i then j else i), S)
  | _ => none) := rfl
@[simp ↓] theorem s_vMax2 (as : List PV) (S : Sto) : vMax2  as S = (match as with
  | [.int i, .int j] => some (.int (if j > i then j else i), S)
  | _ => none) := rfl
@[simp ↓] theorem s_vNeg (a : PV) (S : Sto) : vNeg  a S = (match a with
  | .int i => some (.int (-i), S)
  | _ => none) := rfl
@[simp ↓] theorem s_vLen (as : List PV) (S : Sto) : vLen  as S = (match as with
  | [.str z] => if Fits z.length then some (.int z.length, S) else none
  | [a] => (seqOf S a).map fun xs => (.int xs.length, S)
  | _ => none) := by
  match as with
  | [] => rfl
  | [a] => cases a <;> first | exact fits_ite | rfl
  | a :: _ :: _ => cases a <;> rfl
@[simp ↓] theorem s_vTuple (as : List PV) (S : Sto) : vTuple  as S = (match as with
  | [.tup xs] => some (.tup xs, S)
  | [a] => (listOf S a).map fun xs => (.tup xs, S)
  | _ => none) := rfl
@[simp ↓] theorem s_vItem (a : PV) (b : PV) (S : Sto) : vItem  a b S = (match b with
  | .int i => match a with
    | .str z => if Fits z.length then (atI z.cps.toList i).map fun c => (.str ⟨#[c]⟩, S) else none
    | a => match seqOf S a with
      | some xs => (atI xs i).map fun x => (x, S)
      | none => none
  | _ => none) := by
  unfold vItem
  cases b with
  | int i =>
    cases a with
    | str z => exact fits_ite
    | _ => rfl
  | _ => rfl
@[simp ↓] theorem s_vAppend (n : Nat) (v : PV) (S : Sto) : vAppend (.ref n) [v] S = (match S[n]? with
    | some (.lst xs) => if Fits (xs.length + 1) then some (.non, S.set n (.lst (xs ++ [v]))) else none
    | _ => none) := by
  show (match S[n]? with
    | some (.lst xs) => if xs.length < sizeLine then some (PV.non, S.set n (.lst (xs ++ [v]))) else none
    | _ => none) = _
  cases S[n]? with
  | none => rfl
  | some so => cases so <;> first | exact fits_ite | rfl
@[simp] theorem atI_nat {α : Type} {xs : List α} {i : Nat} : atI xs (i : Int) = xs[i]? := by
  unfold atI ixN
  simp only [Int.natCast_nonneg, if_true, Int.ofNat_lt, Int.toNat_natCast]
  split
  · rfl
  · rename_i h
    rw [List.getElem?_eq_none (by omega)]; rfl
@[simp] theorem atI_lit {α : Type} {xs : List α} {i : Nat} : atI xs (no_index (OfNat.ofNat i) : Int) = xs[i]? := atI_nat
@[simp] theorem kit_NoneType_bool : kitB "NoneType" "bool" = some false := by decide +kernel
@[simp] theorem kit_NoneType_int : kitB "NoneType" "int" = some false := by decide +kernel
@[simp] theorem kit_NoneType_str : kitB "NoneType" "str" = some false := by decide +kernel
@[simp] theorem kit_NoneType_tuple : kitB "NoneType" "tuple" = some false := by decide +kernel
@[simp] theorem kit_NoneType_list : kitB "NoneType" "list" = some false := by decide +kernel
@[simp] theorem kit_NoneType_dict : kitB "NoneType" "dict" = some false := by decide +kernel
@[simp] theorem kit_bool_bool : kitB "bool" "bool" = some true := by decide +kernel
@[simp] theorem kit_bool_int : kitB "bool" "int" = some true := by decide +kernel
@[simp] theorem kit_bool_str : kitB "bool" "str" = some false := by decide +kernel
@[simp] theorem kit_bool_tuple : kitB "bool" "tuple" = some false := by decide +kernel
@[simp] theorem kit_bool_list : kitB "bool" "list" = some false := by decide +kernel
@[simp] theorem kit_bool_dict : kitB "bool" "dict" = some false := by decide +kernel
@[simp] theorem kit_int_bool : kitB "int" "bool" = some false := by decide +kernel
@[simp] theorem kit_int_int : kitB "int" "int" = some true := by decide +kernel
@[simp] theorem kit_int_str : kitB "int" "str" = some false := by decide +kernel
@[simp] theorem kit_int_tuple : kitB "int" "tuple" = some false := by decide +kernel
@[simp] theorem kit_int_list : kitB "int" "list" = some false := by decide +kernel
@[simp] theorem kit_int_dict : kitB "int" "dict" = some false := by decide +kernel
@[simp] theorem kit_str_bool : kitB "str" "bool" = some false := by decide +kernel
@[simp] theorem kit_str_int : kitB "str" "int" = some false := by decide +kernel
@[simp] theorem kit_str_str : kitB "str" "str" = some true := by decide +kernel
@[simp] theorem kit_str_tuple : kitB "str" "tuple" = some false := by decide +kernel
@[simp] theorem kit_str_list : kitB "str" "list" = some false := by decide +kernel
@[simp] theorem kit_str_dict : kitB "str" "dict" = some false := by decide +kernel
@[simp] theorem kit_tuple_bool : kitB "tuple" "bool" = some false := by decide +kernel
@[simp] theorem kit_tuple_int : kitB "tuple" "int" = some false := by decide +kernel
@[simp] theorem kit_tuple_str : kitB "tuple" "str" = some false := by decide +kernel
@[simp] theorem kit_tuple_tuple : kitB "tuple" "tuple" = some true := by decide +kernel
@[simp] theorem kit_tuple_list : kitB "tuple" "list" = some false := by decide +kernel
@[simp] theorem kit_tuple_dict : kitB "tuple" "dict" = some false := by decide +kernel
@[simp] theorem kit_list_bool : kitB "list" "bool" = some false := by decide +kernel
@[simp] theorem kit_list_int : kitB "list" "int" = some false := by decide +kernel
@[simp] theorem kit_list_str : kitB "list" "str" = some false := by decide +kernel
@[simp] theorem kit_list_tuple : kitB "list" "tuple" = some false := by decide +kernel
@[simp] theorem kit_list_list : kitB "list" "list" = some true := by decide +kernel
@[simp] theorem kit_list_dict : kitB "list" "dict" = some false := by decide +kernel
@[simp] theorem kit_dict_bool : kitB "dict" "bool" = some false := by decide +kernel
@[simp] theorem kit_dict_int : kitB "dict" "int" = some false := by decide +kernel
@[simp] theorem kit_dict_str : kitB "dict" "str" = some false := by decide +kernel
@[simp] theorem kit_dict_tuple : kitB "dict" "tuple" = some false := by decide +kernel
@[simp] theorem kit_dict_list : kitB "dict" "list" = some false := by decide +kernel
@[simp] theorem kit_dict_dict : kitB "dict" "dict" = some true := by decide +kernel
@[simp] theorem vEq_int (i j : Int) (S : Sto) : vEq (.int i) (.int j) S = some (.bl (decide (i = j)), S) := by
  have e : PyData.eqv (.int i) (.int j) = decide (i = j) := by rw [PyData.eqv]; rfl
  unfold vEq
  rw [← e]
  exact if_pos ⟨rfl, rfl⟩
@[simp] theorem vNe_int (i j : Int) (S : Sto) : vNe (.int i) (.int j) S = some (.bl (!decide (i = j)), S) := by
  have e : PyData.eqv (.int i) (.int j) = decide (i = j) := by rw [PyData.eqv]; rfl
  unfold vNe
  rw [← e]
  exact if_pos ⟨rfl, rfl⟩
theorem eqv_str (x y : Str) : PyData.eqv (.str x) (.str y) = decide (x = y) := by
  rw [PyData.eqv]
  by_cases h : x = y
  · subst h; simp
  · rw [decide_eq_false h]; exact beq_eq_false_iff_ne.mpr h
theorem sms_map {α : Type} {f : α → PV} {l : List α} (h : ∀ a ∈ l, sm (f a) = true) : sms (l.map f) = true := sms_all.mpr fun x hx => by
  obtain ⟨a, ha, rfl⟩ := List.mem_map.mp hx
  exact h a ha
theorem dps_map {α : Type} {f : α → PV} {n : Nat} : ∀ {l : List α}, (∀ a ∈ l, dp (f a) ≤ n) → dps (l.map f) ≤ n
  | [], _ => Nat.zero_le _
  | a :: l, h => by
    have h1 := h a (List.mem_cons_self ..)
    have h2 := dps_map (l := l) fun x hx => h x (List.mem_cons_of_mem _ hx)
    simp only [List.map_cons, dps]
    omega
theorem wts_map {α : Type} {f : α → PV} {n : Nat} : ∀ {l : List α}, (∀ a ∈ l, wt (f a) ≤ n) → wts (l.map f) ≤ l.length * (n + 2)
  | [], _ => Nat.zero_le _
  | a :: l, h => by
    have h1 := h a (List.mem_cons_self ..)
    have h2 := wts_map (l := l) fun x hx => h x (List.mem_cons_of_mem _ hx)
    simp only [List.map_cons, wts, List.length_cons, Nat.add_mul, Nat.one_mul]
    omega
@[simp] theorem cutP_take (xs : List PV) (j : Nat) : cutP xs none (some (j : Int)) = xs.take j := by
  unfold cutP
  have e1 : HT.sIx xs.length 0 none = 0 := rfl
  have e2 : HT.sIx xs.length xs.length (some (j : Int)) = min j xs.length := by
    unfold HT.sIx
    simp
    omega
  rw [e1, e2]
  simp [List.take_take]
theorem map_get {α : Type} {f : α → PV} {l : List α} {j : Nat} {x : PV} (h : (l.map f)[j]? = some x) : ∃ a, l[j]? = some a ∧ x = f a := by
  rw [List.getElem?_map] at h
  cases q : l[j]? with
  | none => rw [q] at h; cases h
  | some a => rw [q] at h; cases h; exact ⟨a, rfl, rfl⟩
@[simp] theorem set_concat {α : Type} (S : List α) (x y : α) : (S ++ [x]).set S.length y = S ++ [y] := by
  rw [List.set_append_right _ _ (Nat.le_refl _)]; simp
theorem atI_last {α : Type} {xs : List α} : atI xs (-1) = xs.getLast? := by
  cases xs with
  | nil => rfl
  | cons a l =>
    unfold atI ixN
    rw [if_neg (by omega), if_pos (by simp only [List.length_cons]; omega)]
    rw [List.getLast?_eq_getElem?]
    show (a :: l)[((-1 : Int) + ((a :: l).length : Nat)).toNat]? = _
    congr 1
    simp only [List.length_cons]
    omega
end MX
end
section
namespace MX
open PySem PySem.Spec PyProof.Rows L2
mutual
theorem toD_dt : ∀ (x : PV) (d : PyData), toD x = some d → d = dt x
  | .non, _, h => (Option.some.inj h).symm
  | .bl _, _, h => (Option.some.inj h).symm
  | .int _, _, h => (Option.some.inj h).symm
  | .str _, _, h => (Option.some.inj h).symm
  | .tup xs, d, h => by
    simp only [toD, Option.map_eq_some_iff] at h
    obtain ⟨ds, e1, e2⟩ := h
    rw [← e2, toDs_dt xs ds e1]; rfl
  | .lst xs, d, h => by
    simp only [toD, Option.map_eq_some_iff] at h
    obtain ⟨ds, e1, e2⟩ := h
    rw [← e2, toDs_dt xs ds e1]; rfl
  | .ref _, _, h => by cases h
theorem toDs_dt : ∀ (xs : List PV) (ds : List PyData), toDs xs = some ds → ds = dts xs
  | [], _, h => (Option.some.inj h).symm
  | x :: xs, ds, h => by
    simp only [toDs] at h
    split at h
    · rename_i d r e1 e2
      cases h
      rw [toD_dt x d e1, toDs_dt xs r e2]; rfl
    · cases h
end
section
variable {X : Cx}
end
end MX
end
section
namespace MX
open PySem PySem.Spec PyProof.Rows L2
/-- the values of a key -/
def AtomV (v : V) (k : Key) : Prop := match v with
  | .int i => k = .inl i
  | .bl b => k = .inl (PpSet.b2 b)
  | .str x => k = .inr x
  | _ => False
def KeyV (K : PySem.W.Frag) (H : Hp) (ks : List Key) (a : Addr) : Prop := ∃ vs, SqT K H a vs ∧ Paired AtomV vs ks
section
variable {X : Cx} {pins : List (Addr × Obj)} {σ : L2.St} {H : Hp} {s : Shared}
theorem items_u {P : Program} {w : World} : ∀ {vs : List V} {us : List Value} {ks : List Key}, Vals vs us → Paired AtomV vs ks → ItemsAre (uKind P w) ks us
  | _, _, _, .nil, .nil => .nil
  | v :: _, u :: _, k :: _, .cons r t, .cons q tq => by
    refine .cons ?_ (items_u t tq)
    show uIs k u = true
    cases v with
    | int i =>
      obtain ⟨t, rfl⟩ := r
      rw [(show k = _ from q)]; exact uIs_int i t
    | bl b =>
      rw [(show u = Value.bool b from r), (show k = _ from q)]; exact uIs_bool b
    | str x =>
      obtain ⟨t, rfl⟩ := r
      rw [(show k = _ from q)]; exact uIs_str x t
    | _ => exact q.elim
theorem KeyV.is (I : Inv X pins σ H s) {ks : List Key} {a : Addr} (k : KeyV X.K H ks a) : (tupleKind (uKind X.prog X.w)).is s.heap ks a := by
  obtain ⟨vs, h, q⟩ := k
  obtain ⟨its, r, t, _⟩ := I.tuple h
  obtain ⟨o, h1, h2, n, h3⟩ := t
  exact ⟨o, its.toArray, n, h1, h2, h3, by simpa using items_u r q⟩
end
end MX
end
section
namespace MX
open PySem PySem.Spec PyProof.Rows L2
def sameK (k : PV) (p : PV × PV) : Bool := decide (ukey p.1 = ukey k)
def putU (kvs : List (PV × PV)) (k v : PV) : List (PV × PV) := if kvs.any (sameK k) = true then kvs.map (fun p => if sameK k p = true then (p.1, v) else p) else kvs ++ [(k, v)]
section
variable {K : PySem.W.Frag} {mg : MP} {g : Gh} {S : Sto} {H : Hp}
theorem atoms_rep : ∀ {xs : List PV} {vs : List V} {ks : List Key}, RepVs K g xs vs → atomsK xs = some ks → Paired AtomV vs ks
  | [], _, _, r, h => by cases (show _ = [] from r); cases h; exact .nil
  | x :: xs, _, ks, r, h => by
    obtain ⟨v, t, e, r1, r2⟩ := r
    subst e
    unfold atomsK at h
    cases hx : atomK x with
    | none => rw [hx] at h; cases h
    | some k =>
      rw [hx] at h
      simp only [Option.map_eq_some_iff] at h
      obtain ⟨kr, h1, h2⟩ := h
      subst h2
      refine .cons ?_ (atoms_rep r2 h1)
      cases x with
      | int i => cases hx; rw [(show v = V.int i from r1)]; rfl
      | bl b => cases hx; rw [(show v = V.bl b from r1)]; rfl
      | str z => cases hx; rw [(show v = V.str z from r1)]; rfl
      | _ => cases hx
theorem key_rep (hS : RepS K mg g S H) {k : PV} {ks : List Key} {v : V} (r : RepV K g k v) (h : ukey k = some ks) : ∃ b, v = .ref b ∧ KeyV K H ks b := by
  cases k with
  | tup xs =>
    obtain ⟨b, vs, e, h1, h2⟩ := r
    exact ⟨b, e, vs, TpQ.t hS.fz h1, atoms_rep h2 h⟩
  | _ => cases h
theorem RepU.keys (hS : RepS K mg g S H) : ∀ {kvs : List (PV × PV)} {xs : List (List Key × Addr × Value)}, RepU K g kvs xs → ∀ x ∈ xs, KeyV K H x.1 x.2.1
  | _, _, .nil, x, hx => by cases hx
  | _, _, .cons ⟨q1, q2, _⟩ t, x, hx => by
    rcases List.mem_cons.mp hx with rfl | hx
    · obtain ⟨b, e, k⟩ := key_rep hS q2 q1
      cases e; exact k
    · exact RepU.keys hS t x hx
theorem RepU.length {kvs : List (PV × PV)} {xs : List (List Key × Addr × Value)} (r : RepU K g kvs xs) : kvs.length = xs.length := Paired.length r
theorem RepU.any {k : PV} {ks : List Key} (hk : ukey k = some ks) : ∀ {kvs : List (PV × PV)} {xs : List (List Key × Addr × Value)}, RepU K g kvs xs → (atKey xs ks).isSome = kvs.any (sameK k)
  | _, _, .nil => rfl
  | p :: kvs, q :: xs, .cons ⟨q1, q2, _⟩ t => by
    have ih := RepU.any hk t
    unfold atKey at ih ⊢
    simp only [List.find?_cons, List.any_cons, sameK, q1, hk]
    by_cases e : q.1 = ks
    · simp [e]
    · have e' : ¬ (some q.1 = some ks) := fun z => e (Option.some.inj z)
      simp only [e, e', decide_false, Bool.false_or]
      exact ih
theorem RepU.put {k v : PV} {ks : List Key} {b : Addr} {z : V} {u : Value} {kvs : List (PV × PV)} {xs : List (List Key × Addr × Value)} (r : RepU K g kvs xs) (hk : ukey k = some ks) (rk : RepV K g k (.ref b)) (rz : RelV z u) (rv : RepV K g v z) :
    RepU K g (putU kvs k v) (storedH xs ks b u) := by
  unfold putU storedH
  rw [RepU.any hk r]
  by_cases h : kvs.any (sameK k) = true
  · rw [if_pos h, if_pos h]
    clear h
    induction r with
    | nil => exact .nil
    | @cons p q ps qs hq t ih =>
      obtain ⟨q1, q2, w, q3, q4⟩ := hq
      refine .cons ?_ ih
      unfold putAt sameK
      dsimp only
      simp only [q1, hk]
      by_cases e : q.1 = ks
      · simp only [e, decide_true, if_true]
        exact ⟨by rw [q1, e], q2, z, rz, rv⟩
      · have e' : ¬ (some q.1 = some ks) := fun z => e (Option.some.inj z)
        simp only [e, e', decide_false, Bool.false_eq_true, if_false]
        exact ⟨q1, q2, w, q3, q4⟩
  · rw [if_neg h, if_neg h]
    exact Paired.snoc r ⟨hk, rk, z, rz, rv⟩
end
section
variable {X : Cx} {kx vx tg iter : Expr} {ifs : List Expr} {scope : Scope} {own : List (Str × Nat)} {pos : Pos} {ti : Si} {t : Sg} {is : List Nat} {tc : St'} {tk tv : Sx}
end
section
variable {X : Cx}
end
end MX
end
section
namespace MX
open PySem PySem.Spec PyProof.Rows L2
section
variable {K : PySem.W.Frag} {mg : MP} {g g' : Gh} {S S' : Sto} {H H' : Hp}
mutual
theorem RepV.blw {g : Gh} : ∀ (x : PV) (v : V), RepV K g x v → below g.m.length x = true
  | .non, _, _ => rfl
  | .bl _, _, _ => rfl
  | .int _, _, _ => rfl
  | .str _, _, _ => rfl
  | .adr _ xs vs, _, ⟨_, r⟩ => RepVs.blw xs vs r
  | .dic _ xs, _, ⟨_, _, _, _, r⟩ => RepVs.blw xs _ r
  | .tup xs, _, ⟨_, _, _, _, r⟩ => RepVs.blw xs _ r
  | .lst xs, _, ⟨_, _, _, _, r⟩ => RepVs.blw xs _ r
  | .ref n, _, ⟨a, _, r⟩ => by
    have := (List.getElem?_eq_some_iff.mp r).1
    simpa [below] using this
theorem RepVs.blw {g : Gh} : ∀ (xs : List PV) (vs : List V), RepVs K g xs vs → belows g.m.length xs = true
  | [], _, _ => rfl
  | x :: xs, _, ⟨_, _, _, r, t⟩ => by
    simp only [belows, Bool.and_eq_true]
    exact ⟨RepV.blw x _ r, RepVs.blw xs _ t⟩
end
theorem paired_blw {α β : Type} {F : α → β → Prop} {p : α → Bool} : ∀ {l : List α} {m : List β}, Paired F l m → (∀ a b, F a b → p a = true) → l.all p = true
  | _, _, .nil, _ => rfl
  | _, _, .cons r t, h => by rw [List.all_cons, h _ _ r, paired_blw t h]; rfl
theorem RepO.blw {so : SO} {a : Addr} (r : RepO K mg g H so a) : belowO g.m.length so = true := by
  cases so with
  | lst xs => obtain ⟨_, _, q⟩ := r; exact RepVs.blw _ _ q
  | dct kvs => obtain ⟨_, _, q⟩ := r; exact paired_blw q fun _ _ z => RepV.blw _ _ z.2
  | dcu kvs =>
    obtain ⟨_, _, _, q⟩ := r
    refine paired_blw q fun _ _ z => ?_
    obtain ⟨_, z2, v, _, z3⟩ := z
    rw [Bool.and_eq_true]
    exact ⟨RepV.blw _ _ z2, RepV.blw _ _ z3⟩
  | ins c fs => obtain ⟨_, _, _, _, _, q⟩ := r; exact paired_blw q fun _ _ z => RepV.blw _ _ z.2
  | exc c fs =>
    obtain ⟨_, _, ⟨_, _, _, _, q⟩ | ⟨z, _⟩⟩ := r
    · exact paired_blw q fun _ _ z => RepV.blw _ _ z.2
    · subst z; rfl
  | dead => rfl
end
mutual
def pvB : PV → PV → Bool
  | .non, .non => true
  | .bl a, .bl b => a == b
  | .int a, .int b => decide (a = b)
  | .str a, .str b => decide (a = b)
  | .tup a, .tup b => pvsB a b
  | .lst a, .lst b => pvsB a b
  | .ref a, .ref b => Nat.beq a b
  | .adr a xs vs, .adr b ys ws => Nat.beq a b && (pvsB xs ys && decide (vs = ws))
  | .dic k xs, .dic l ys => decide (k = l) && pvsB xs ys
  | _, _ => false
def pvsB : List PV → List PV → Bool
  | [], [] => true
  | a :: r, b :: t => pvB a b && pvsB r t
  | _, _ => false
end
mutual
theorem pvB_eq : ∀ a b : PV, pvB a b = true → a = b
  | .non, b, h => by cases b <;> first | rfl | cases h
  | .bl a, b, h => by
    cases b with
    | bl b => rw [show a = b by simpa [pvB] using h]
    | _ => cases h
  | .int a, b, h => by
    cases b with
    | int b => rw [show a = b by simpa [pvB] using h]
    | _ => cases h
  | .str a, b, h => by
    cases b with
    | str b => rw [show a = b by simpa [pvB] using h]
    | _ => cases h
  | .tup a, b, h => by
    cases b with
    | tup b => rw [pvsB_eq a b (by simpa only [pvB] using h)]
    | _ => cases h
  | .lst a, b, h => by
    cases b with
    | lst b => rw [pvsB_eq a b (by simpa only [pvB] using h)]
    | _ => cases h
  | .ref a, b, h => by
    cases b with
    | ref b => rw [show a = b from Nat.eq_of_beq_eq_true h]
    | _ => cases h
  | .adr a xs vs, b, h => by
    cases b with
    | adr b ys ws =>
      have h' : Nat.beq a b = true ∧ pvsB xs ys = true ∧ vs = ws := by simpa only [pvB, Bool.and_eq_true, decide_eq_true_eq] using h
      rw [show a = b from Nat.eq_of_beq_eq_true h'.1, pvsB_eq xs ys h'.2.1, h'.2.2]
    | _ => cases h
  | .dic k xs, b, h => by
    cases b with
    | dic l ys =>
      have h' : k = l ∧ pvsB xs ys = true := by simpa only [pvB, Bool.and_eq_true, decide_eq_true_eq] using h
      rw [h'.1, pvsB_eq xs ys h'.2]
    | _ => cases h
theorem pvsB_eq : ∀ a b : List PV, pvsB a b = true → a = b
  | [], b, h => by cases b <;> first | rfl | cases h
  | a :: r, b, h => by
    cases b with
    | nil => cases h
    | cons b t =>
      have h' : pvB a b = true ∧ pvsB r t = true := by simpa only [pvsB, Bool.and_eq_true] using h
      rw [pvB_eq a b h'.1, pvsB_eq r t h'.2]
end
mutual
theorem pvB_refl : ∀ a : PV, pvB a a = true
  | .non => rfl
  | .bl a => by simp [pvB]
  | .int a => by simp [pvB]
  | .str a => by simp [pvB]
  | .tup a => by simp only [pvB]; exact pvsB_refl a
  | .lst a => by simp only [pvB]; exact pvsB_refl a
  | .ref a => by simp [pvB]
  | .adr a xs vs => by simp [pvB, pvsB_refl xs]
  | .dic k xs => by simp [pvB, pvsB_refl xs]
theorem pvsB_refl : ∀ a : List PV, pvsB a a = true
  | [] => rfl
  | a :: r => by simp [pvsB, pvB_refl a, pvsB_refl r]
end
instance : DecidableEq PV := fun a b => if h : pvB a b = true then .isTrue (pvB_eq a b h) else .isFalse fun e => h (by rw [e]; exact pvB_refl b)
instance : DecidableEq SO := fun a b => match a, b with
  | .lst a, .lst b => if h : a = b then .isTrue (by rw [h]) else .isFalse fun e => h (SO.lst.inj e)
  | .dct a, .dct b => if h : a = b then .isTrue (by rw [h]) else .isFalse fun e => h (SO.dct.inj e)
  | .dcu a, .dcu b => if h : a = b then .isTrue (by rw [h]) else .isFalse fun e => h (SO.dcu.inj e)
  | .ins c a, .ins d b => if h : c = d ∧ a = b then .isTrue (by rw [h.1, h.2]) else .isFalse fun e => h (SO.ins.inj e)
  | .exc c a, .exc d b => if h : c = d ∧ a = b then .isTrue (by rw [h.1, h.2]) else .isFalse fun e => h (SO.exc.inj e)
  | .dead, .dead => .isTrue rfl
  | .lst _, .dct _ => .isFalse fun e => by cases e
  | .lst _, .dcu _ => .isFalse fun e => by cases e
  | .lst _, .ins _ _ => .isFalse fun e => by cases e
  | .lst _, .exc _ _ => .isFalse fun e => by cases e
  | .lst _, .dead => .isFalse fun e => by cases e
  | .dct _, .lst _ => .isFalse fun e => by cases e
  | .dct _, .dcu _ => .isFalse fun e => by cases e
  | .dct _, .ins _ _ => .isFalse fun e => by cases e
  | .dct _, .exc _ _ => .isFalse fun e => by cases e
  | .dct _, .dead => .isFalse fun e => by cases e
  | .dcu _, .lst _ => .isFalse fun e => by cases e
  | .dcu _, .dct _ => .isFalse fun e => by cases e
  | .dcu _, .ins _ _ => .isFalse fun e => by cases e
  | .dcu _, .exc _ _ => .isFalse fun e => by cases e
  | .dcu _, .dead => .isFalse fun e => by cases e
  | .ins _ _, .lst _ => .isFalse fun e => by cases e
  | .ins _ _, .dct _ => .isFalse fun e => by cases e
  | .ins _ _, .dcu _ => .isFalse fun e => by cases e
  | .ins _ _, .exc _ _ => .isFalse fun e => by cases e
  | .ins _ _, .dead => .isFalse fun e => by cases e
  | .exc _ _, .lst _ => .isFalse fun e => by cases e
  | .exc _ _, .dct _ => .isFalse fun e => by cases e
  | .exc _ _, .dcu _ => .isFalse fun e => by cases e
  | .exc _ _, .ins _ _ => .isFalse fun e => by cases e
  | .exc _ _, .dead => .isFalse fun e => by cases e
  | .dead, .lst _ => .isFalse fun e => by cases e
  | .dead, .dct _ => .isFalse fun e => by cases e
  | .dead, .dcu _ => .isFalse fun e => by cases e
  | .dead, .ins _ _ => .isFalse fun e => by cases e
  | .dead, .exc _ _ => .isFalse fun e => by cases e
section
variable {X : Cx} {e : Expr} {t : Sx}
end
end MX
namespace MX
open PySem PySem.Spec PyProof.Rows L2
end MX
namespace MX
open PySem PySem.Spec PyProof.Rows L2
def vNeS : V2 := fun a b S => match a, b with
  | .str x, .str y => some (.bl (!decide (x = y)), S)
  | a, b => vNe a b S
theorem op_neS {X : Cx} (hu : X.A.units + 64 < cLine) : Op2 X (compareOp .NotEq) vNeS := by
  intro pins s σ H x y v u Q I rx ry ⟨g, S, a, b, hS, r1, r2, p⟩
  unfold vNeS at p
  split at p
  · rename_i z w
    have e1 : x = V.str z := r1
    have e2 : y = V.str w := r2
    subst e1 e2
    refine op_ne pins s σ H _ _ v u Q I rx ry ⟨rfl, ?_⟩
    have e : decide (V.str z = V.str w) = decide (z = w) := decide_eq_decide.mpr ⟨fun q => by cases q; rfl, fun q => by rw [q]⟩
    first | rw [e] | (rw [show (V.str z != V.str w) = !decide (z = w) by rw [← e]; rfl])
    exact p.now hS rfl
  · exact op_ne' hu pins s σ H x y v u Q I rx ry ⟨g, S, _, _, hS, r1, r2, p⟩
end MX
end
section
namespace MX
open PySem PySem.Spec PyProof.Rows L2
section
variable {X : Cx} {o e : Expr} {es : List Expr} {to : Sx} {tr : Sa} {name : Str} {apos cpos : Pos} {id : String} {f : VM}
def isT (a : PV) : Bool := match a with
  | .tup _ => true
  | _ => false
end
section
variable {X : Cx}
end
end MX
namespace MX
open PySem PySem.Spec PyProof.Rows L2
end MX
end
section
namespace MX
open PySem PySem.Spec PyProof.Rows L2
section
variable {X : Cx} {own : List (Str × Nat)} {ti ti1 : Si} {t t1 : Sg} {is is1 vs1 : List Nat} {tc tc1 : St'} {te : Sx} {fin : VN}
end
section
variable {X : Cx} {elt tg iter tg1 iter1 : Expr} {ifs ifs1 : List Expr} {scope : Scope} {pos : Pos} {ti ti1 : Si} {t t1 : Sg} {is is1 : List Nat} {tc tc1 : St'} {te : Sx} {fin : VN}
end
end MX
end
section
namespace MX
open PySem PySem.Spec PyProof.Rows L2
section
variable {X : Cx} {e : Expr} {es : List Expr} {te : Sx} {tr : Sa} {p : Pos}
end
end MX
end
section
set_option maxHeartbeats 2000000
namespace MX
open PySem PySem.Spec PyProof.Rows L2
theorem exV_ok {P : Program} {w : World} {H : Hp} {h : Heap} {C dx a : Addr} {oe : Obj} {vs : Array Value} (e : h.get? a = some oe) (c : oe.cls = .ref C) (d : oe.dict = some dx) (v : oe.data = .fields vs) : ObjOk P w H h a (ExV C dx a) :=
  ⟨⟨oe, vs, e, c, d, v⟩, ⟨oe, e⟩, fun _ _ ⟨o, v, q, r⟩ k => ⟨o, v, k o q, r⟩⟩
theorem exV_at {P : Program} {w : World} {H : Hp} {h : Heap} {C dx a : Addr} (hok : HOk P w H h) (he : H a = some (ExV C dx a)) : ∃ (oe : Obj) (vs : Array Value), h.get? a = some oe ∧ oe.cls = .ref C ∧ oe.dict = some dx ∧ oe.data = .fields vs := (hok a _ he).1
section
variable {X : Cx} {pins : List (Addr × Obj)} {σ : L2.St} {H : Hp} {s : Shared}
/-- an object of one's own is tracked from now on -/
theorem track {a C dx : Addr} {oe : Obj} {vs : Array Value} (I : Inv X pins σ H s) (he : s.heap.get? a = some oe) (hc : oe.cls = .ref C) (hd : oe.dict = some dx) (hv : oe.data = .fields vs) (na : H a = none)
    (n0 : X.s_0.heap.get? a = none) (np : ∀ p ∈ X.pn ++ pins, p.1 ≠ a) (nL : a ≠ X.env.locals) : Inv X pins σ (upd H a (ExV C dx a)) s := by
  have n1 : ∀ b o, X.s_0.heap.get? b = some o → b ≠ a := fun b o e z => by rw [z, n0] at e; cases e
  have ne : ∀ b u, H b = some u → b ≠ a := fun b u e z => by rw [z, na] at e; cases e
  refine ⟨I.ok, I.os, I.bare, ⟨I.base.keep, I.base.slot, fun b o e n hx => ?_, I.base.there, fun b xs e => ?_, fun b o u e => ?_, fun b ps e => ?_⟩, I.loc, I.cell, ?_, fun x c e => ?_, fun p hp => ?_, fun b u e => ?_, I.len⟩
  · rw [upd_ne (n1 b o e)]; exact I.base.free b o e n hx
  · have qt := I.base.tups b xs e
    rw [upd_ne (ne b _ qt)]; exact qt
  · have qf := I.base.frzs b o u e
    rw [upd_ne (ne b _ qf)]; exact qf
  · obtain ⟨mt, qb⟩ := I.base.tbls b ps e
    exact ⟨mt, by rw [upd_ne (ne b _ qb)]; exact qb⟩
  · rw [upd_ne (Ne.symm nL)]; exact I.free
  · have nc : c ≠ a := fun z => by
      obtain ⟨w, oc, at_c, dc⟩ := I.cell x c e
      rw [z, he] at at_c; cases at_c
      rw [hv] at dc; cases dc
    rw [upd_ne nc]; exact I.freeC x c e
  · obtain ⟨e, n, ne', nf, d⟩ := I.pin p hp
    exact ⟨e, by rw [upd_ne (np p hp)]; exact n, ne', nf, d⟩
  · by_cases hb : b = a
    · subst hb
      rw [upd_same] at e; cases e
      exact exV_ok he hc hd hv
    · rw [upd_ne hb] at e
      exact (I.hok b u e).stay (fun _ _ _ q => q) (fun c q => by rw [upd_ne (ne c _ q)]; exact q) fun c xs q => by rw [upd_ne (ne c _ q)]; exact q
theorem suiteI {a : Addr} (I : Inv X pins σ H s) : Inv (X.suite a (X.pn ++ pins)) [] σ H s :=
  ⟨I.ok.suite _ _, I.os, I.bare, I.base, I.loc, I.cell, I.free, I.freeC, fun p hp => I.pin p (by rw [List.append_nil] at hp; exact hp), I.hok, I.len⟩
theorem unsuiteI {a : Addr} {pn' : List (Addr × Obj)} (I : Inv (X.suite a (X.pn ++ pins)) pn' σ H s) (ok : X.Ok) : Inv X pins σ H s :=
  ⟨ok, I.os, I.bare, I.base, I.loc, I.cell, I.free, I.freeC, fun p hp => I.pin p (List.mem_append_left _ hp), I.hok, I.len⟩
theorem flying_keeps {B h h' : Heap} {l : List Env} {a : Addr} {Z : Obj → Prop} (k : ∀ b o, h.get? b = some o → h'.get? b = some o) (f : HandSPX.FlyingZ B l a Z h) : HandSPX.FlyingZ B l a Z h' := by
  obtain ⟨f1, f2, f3, oe, vs, T, oT, ts, g1, g2, g3, g4, g5, g6, g7, g8, g9⟩ := f
  exact ⟨fun b o e => k b o (f1 b o e), f2, f3.of_keeps fun b o e _ => ⟨o, k b o e, rfl⟩, oe, vs, T, oT, ts, k _ _ g1, g2, g3, g4, g5, g6, k _ _ g7, g8, g9⟩
/-- what an except clause asks: m, the classes that it takes -/
def Clause (X : Cx) (tst : Expr) (m : Value → Prop) : Prop := ∀ (a : Addr) (pn pins : List (Addr × Obj)) (σ : L2.St) (H : Hp) (s : Shared) (cls : Value) (Q : Bool → Shared → Prop) (E : Value → Shared → Prop), Inv (X.suite a pn) pins σ H s → m cls →
  PySem.W.Looks (model X.prog X.w) s.heap (typeOf (.ref a)) cls → (∀ h', (∀ b o, s.heap.get? b = some o → h'.get? b = some o) → Q true { s with heap := h' }) →
  wpAny (model X.prog X.w) (X.A.mark (some (.ref a))) (eval tst X.env) (fun c s1 => wpAny (model X.prog X.w) (X.A.mark (some (.ref a))) (excMatches (.ref a) c) Q E s1) E s
theorem name_suite {a : Addr} {pn : List (Addr × Obj)} {x : Str} {c : Value} {np : Pos} {Q : Value → Shared → Prop} {E : Value → Shared → Prop} (hc : Names X x c) (I : Inv (X.suite a pn) pins σ H s) (q : Q c s) :
    wpAny (model X.prog X.w) (X.A.mark (some (.ref a))) (eval (.Name x np) X.env) Q E s := by
  obtain ⟨gl, db, own | ⟨free, bi, nn⟩⟩ := hc
  · exact ld_glob (X := X.suite a pn) I gl own q db
  · exact ld_blt (X := X.suite a pn) I gl free bi q nn db
theorem clause_one {x : Str} {c : Value} {np : Pos} (hc : Names X x c) : Clause X (.Name x np) (fun cls => PySem.W.exmOne X.K cls c = some true) := fun a pn pins σ H s cls Q E I m L q => by
  refine name_suite hc I ?_
  exact (PySem.W.exm_one I.kIn L m).here (q s.heap fun _ _ e => e)
end
def unsetS (i : Nat) : SOut → SOut
  | .nx sp S => .nx (sp.set i none) S
  | .bk sp S => .bk (sp.set i none) S
  | .ct sp S => .ct (sp.set i none) S
  | .rt v S => .rt v S
  | _ => .stuck
/-- try: t, except .. as i: u; cs: the classes that are taken -/
def ssTry (cs : List Str) (i : Nat) (t u : Ss) : Ss := fun sp S => match t sp S with
  | .exc x sp' S' => if x.cls ∈ cs then unsetS i (u (sp'.set i (some (.ref S'.length))) (S' ++ [.exc x.cls x.fs])) else .stuck
  | o => o
section
variable {X : Cx} {n : Str} {i : Nat} {tst : Expr} {body suite : List Stmt} {b₀ : Stmt} {pos pos' : Pos} {t u : Ss} {cs : List Str} {m : Value → Prop}
theorem setNone {K : PySem.W.Frag} {g : Gh} {sp : Sl} {σ : L2.St} (h : RepE K g sp σ) (i : Nat) : RepE K g (sp.set i none) (σ.set i none) := ⟨by simp [h.len], fun j x e => by
  by_cases hj : i = j
  · subst hj
    by_cases hi : i < sp.length
    · rw [List.getElem?_set_self hi] at e; cases e
    · rw [List.getElem?_eq_none (by simpa using hi)] at e; cases e
  · rw [List.getElem?_set_ne hj] at e
    obtain ⟨v, e1, q⟩ := h.get j x e
    exact ⟨v, by rw [List.getElem?_set_ne hj]; exact e1, q⟩⟩
theorem ss_try (hs : X.stack = X.env :: X.outer) (hf : X.env.frame = some X.env.locals) (hex : X.ex = []) (hN : X.N.Nodup) (hi : X.N[i]? = some n) (hln : X.env.kindOf n = some .local) (hc : Clause X tst m)
    (hm : ∀ c ∈ cs, ∀ C : Addr, X.mg c = some (.ref C) → m (.ref C))
    (hb : ∀ (pn : List (Addr × Obj)) (xe : Value → Shared → Prop), PassesOwn (model X.prog X.w) X.A X.env xe → PSs (X.tr pn xe) body (rdS (X.tr pn xe) t))
    (hsu : ∀ (a : Addr) (pn : List (Addr × Obj)), PSs (X.suite a pn) (b₀ :: suite) (rdS (X.suite a pn) u)) :
    PS X (.Try body [.ExceptHandler (some tst) (some n) (b₀ :: suite) pos'] [] [] pos) (rdS X (ssTry cs i t u)) := by
  refine ⟨fun pins s σ H D I ⟨g, sp, S, hS, hE, p⟩ => ?_⟩
  have ok := I.ok
  have frm : X.A.frames = some (X.env :: X.outer) := by rw [ok.frames, hs]
  have locN : Loc X.env.scope n := .inl hln
  refine wpAny_Try_except ?_
  refine wpAny_mono ((hb (X.pn ++ pins) (fun e s₁ => wpAny (model X.prog X.w) X.A (noteFrame e X.env) (fun _ s₂ => wpAny (model X.prog X.w) X.A (setFlight e none) (fun _ s₃ =>
    wpAny (model X.prog X.w) X.A (handleBy e X.env [.ExceptHandler (some tst) (some n) (b₀ :: suite) pos']) (SP X pins D) X.xe s₃) X.xe s₂) X.xe s₁) PassesOwn.looking).run [] s σ H D (I.toTry _) ⟨g, sp, S, hS, hE, ?_⟩) (fun f s1 fin => ?_) (fun e s1 he => he)
  · unfold ssTry at p
    cases ht : t sp S with
    | nx sp' S' => rw [ht] at p; exact p
    | rt v S' => rw [ht] at p; exact p
    | bk sp' S' => rw [ht] at p; exact p
    | ct sp' S' => rw [ht] at p; exact p
    | stuck => rw [ht] at p; exact p
    | exc x sp' S' =>
      rw [ht] at p
      simp only at p
      by_cases hx : x.cls ∈ cs
      case neg => rw [if_neg hx] at p; exact p.elim
      rw [if_pos hx] at p
      intro v s' xx
      obtain ⟨a, B, sI, pins', σ', H', cls, d, rfl, Jt, nb, up, sky, na, os, ag, g', lg, hS', hE', C, rfl, mC, dx, ws, rfl, fzd, rF⟩ := xx
      have Jo : Inv X pins σ' H' sI := Jt.ofTry ok
      have skyX : Sky B (X.env :: X.outer) a (Zc (.ref C) (some dx)) X.env.locals s'.heap := by rw [← hs]; exact sky
      show wpAny (model X.prog X.w) X.A (noteFrame (.ref a) X.env) _ _ _
      refine Sky.land Zc.steady frm hf skyX fun hq3 fy3 ut3 => ?_
      have Jb3 : Inv X pins σ' H' { s' with heap := hq3 } := Jo.landed nb fy3.1 (up.trans ut3) os ag
      obtain ⟨ob3, ar3, at3, zc3, dt3⟩ := fy3.there
      have noFrm : ∀ {h : Heap} {o : Obj} {vs : Array Value}, h.FunFrames B (X.env :: X.outer) → h.get? a = some o → o.data = .fields vs → a ∉ frs (X.env :: X.outer) := fun {h o vs} ff e dd hm => by
        obtain ⟨_, o', e', hnf⟩ := ff.mem hm
        rw [e] at e'; cases e'
        exact hnf _ dd
      have nof := noFrm fy3.2.2.1 at3 dt3
      have notL : a ≠ X.env.locals := fun z => nof (List.mem_filterMap.mpr ⟨X.env, List.mem_cons_self, by rw [hf, z]⟩)
      have newI : sI.heap.get? a = none := by
        cases e : sI.heap.get? a with
        | none => rfl
        | some o =>
          have z := nb a o e (by rw [hs]; exact nof)
          rw [fy3.2.1] at z; cases z
      have new0 : X.s_0.heap.get? a = none := by
        cases e : X.s_0.heap.get? a with
        | none => rfl
        | some o =>
          obtain ⟨o', z⟩ := Jo.base.there a o e (by rw [hex]; exact fun z => nomatch z)
          rw [newI] at z; cases z
      have np : ∀ p ∈ X.pn ++ pins, p.1 ≠ a := fun p hp z => by
        have q := (Jo.pin p hp).1
        rw [z, newI] at q; cases q
      have Sb3 := suiteI (a := a) Jb3
      refine wpAny_handleBy_cons (codeAny_handlers_test ?_) (by intro q; cases q)
      have LT : PySem.W.Looks (model X.prog X.w) hq3 (typeOf (.ref a)) (.ref C) := fun A Q E s k q => wpAny_typeOf_ref (k _ _ at3) (by rw [zc3.1]; exact q)
      refine hc a _ [] σ' H' _ (.ref C) _ _ Sb3 (hm _ hx C mC) LT fun h5 k5 => ?_
      refine codeAny_handlers_suite_as ?_
      refine HandSPX.lands_againZ (flying_keeps k5 fy3) fun hq4 fy4 ut4 => ?_
      have Jb4 : Inv X pins σ' H' { s' with heap := hq4 } := Jo.landed nb fy4.1 ((up.trans ut3).trans ((Heap.UpToSlots.of_keeps k5).trans ut4)) os ag
      obtain ⟨ob4, ar4, at4, zc4, dt4⟩ := fy4.there
      have Sb4 := suiteI (a := a) (track Jb4 at4 zc4.1 zc4.2 dt4 na new0 np notL)
      obtain ⟨hP, lP⟩ := hS'.push (so := .exc x.cls x.fs) (o := ExV C dx a) na ⟨C, mC, .inl ⟨dx, ws, upd_same, fzd, rF⟩⟩
      refine store_ok (X := X.suite a (X.pn ++ pins)) (v := .ref a) Sb4 hN hi locN rfl (fun s5 S5 => ?_) (.inr hln)
      have hE5 : RepE X.K ⟨g'.fz, g'.m ++ [a], g'.rs, g'.tb⟩ (sp'.set i (some (.ref S'.length))) (σ'.set i (some (.ref a))) := RepE.set (x := .ref S'.length) (v := .ref a) (RepE.mono lP hE') ⟨a, rfl, by rw [← hS'.len]; simp⟩ i
      have lt5 := lg.trans lP
      have p5 : PostS (X.suite a (X.pn ++ pins)) ⟨g'.fz, g'.m ++ [a], g'.rs, g'.tb⟩ (u (sp'.set i (some (.ref S'.length))) (S' ++ [.exc x.cls x.fs]))
          { nx := fun σ' H' => D.nx (σ'.set i none) H', rt := D.rt, bk := fun σ' H' => D.bk (σ'.set i none) H', ct := fun σ' H' => D.ct (σ'.set i none) H' } := by
        cases hu : u (sp'.set i (some (.ref S'.length))) (S' ++ [.exc x.cls x.fs]) with
        | nx sp6 T6 => rw [hu] at p; exact fun τ6 G6 g6 l6 w6 e6 => p _ G6 g6 (lt5.trans l6) w6 (setNone e6 i)
        | bk sp6 T6 => rw [hu] at p; exact fun τ6 G6 g6 l6 w6 e6 => p _ G6 g6 (lt5.trans l6) w6 (setNone e6 i)
        | ct sp6 T6 => rw [hu] at p; exact fun τ6 G6 g6 l6 w6 e6 => p _ G6 g6 (lt5.trans l6) w6 (setNone e6 i)
        | rt r6v T6 => rw [hu] at p; exact fun v G6 g6 l6 w6 e6 => p v G6 g6 (lt5.trans l6) w6 e6
        | exc _ _ _ => rw [hu] at p; exact p.elim
        | stuck => rw [hu] at p; exact p.elim
      refine wpAny_mono ((hsu a (X.pn ++ pins)).run [] s5 _ _ _ S5 ⟨_, _, _, hP, hE5, p5⟩) (fun f s6 fin => ?_) (fun _ _ z => False.elim z)
      have leave : ∀ {τ6 : L2.St} {G6 : Hp} {Q : Shared → Prop}, Inv (X.suite a (X.pn ++ pins)) [] τ6 G6 s6 → (∀ t7, Inv X pins (τ6.set i none) G6 t7 → Q t7) →
          wpAny (model X.prog X.w) X.A (do bindName X.env n .none; unbindBehindTheSuite X.env n pos') (fun _ t7 => Q t7) X.xe s6 := fun {τ6 G6 Q} T6 hq => gone_ok (unsuiteI T6 ok) hN hi hln hq
      cases f with
      | next =>
        obtain ⟨τ6, G6, T6, w6⟩ := fin
        exact leave T6 fun t7 U7 => ⟨_, _, U7, w6⟩
      | brk =>
        obtain ⟨τ6, G6, T6, w6⟩ := fin
        exact leave T6 fun t7 U7 => ⟨_, _, U7, w6⟩
      | cont =>
        obtain ⟨τ6, G6, T6, w6⟩ := fin
        exact leave T6 fun t7 U7 => ⟨_, _, U7, w6⟩
      | ret u =>
        obtain ⟨r6v, τ6, G6, T6, rr6, w6⟩ := fin
        exact leave T6 fun t7 U7 => ⟨_, _, _, U7, rr6, w6⟩
  · cases f with
    | next =>
      obtain ⟨σ', H', Jt, q⟩ := fin
      exact wpAny_execs_nil ⟨σ', H', Jt.ofTry ok, q⟩
    | brk =>
      obtain ⟨σ', H', Jt, q⟩ := fin
      exact ⟨σ', H', Jt.ofTry ok, q⟩
    | cont =>
      obtain ⟨σ', H', Jt, q⟩ := fin
      exact ⟨σ', H', Jt.ofTry ok, q⟩
    | ret u =>
      obtain ⟨v, σ', H', Jt, r, q⟩ := fin
      exact ⟨v, σ', H', Jt.ofTry ok, r, q⟩
end
end MX
end
section
set_option maxHeartbeats 2000000
namespace MX
open PySem PySem.Spec PyProof.Rows L2
section
variable {M : Model} {A : Around} {E : Value → Shared → Prop} {hp : Heap} {gs : Array GenState} {dr : Drawn} {tk : Nat} {os : OsState}
variable {nm qn : Str} {C N : Addr} {bs bm bmB : List Value} {hdct : Bool} {sn : List Str} {sub : List Value} {ab : Bool} {col : Option Bool} {dd : Option Addr} {k0 k1 k2 k3 k5 : Option Value} {B newId initId : String} {us : List Value} {kw : List (Str × Value)}
theorem kwT_check {Q : Unit → Shared → Prop} (at_C : hp.get? C = some (excClassObj nm qn C N bs bm hdct sn sub ab col dd k0 k1 k2 k3 k5 newId)) (q : Q () ⟨hp, gs, dr, tk, os⟩) : wpAny M A (checkBuiltinCall "type.__call__" ⟨.ref C :: us, kw⟩) Q E ⟨hp, gs, dr, tk, os⟩ := by
  have z1 := tc_sub
  have z2 : (⟨hp, gs, dr, tk, os⟩ : Shared).TypeIs (.ref C) "type" := ⟨_, at_C, rfl⟩
  simp only [checkBuiltinCall, tc_kind, tc_split]; repeat (any_goals (first | assumption | with_reducible refine wpAny_loadPart_at at_C ?_ | with_reducible refine wpAny_onRaise ?_ | with_reducible refine wpAny_map ?_ | wp_step))
theorem kwN_check (F : ExcBaseFacts B newId initId bmB) (hT : ∀ X : String, bm.contains (.type X) = bmB.contains (.type X)) {Q : Unit → Shared → Prop} (at_C : hp.get? C = some (excClassObj nm qn C N bs bm hdct sn sub ab col dd k0 k1 k2 k3 k5 newId)) (q : Q () ⟨hp, gs, dr, tk, os⟩) : wpAny M A (checkBuiltinCall newId ⟨.ref C :: us, kw⟩) Q E ⟨hp, gs, dr, tk, os⟩ := by
  have c1 : (Value.ref C :: bm).contains (.type B) = true := by rw [List.contains_cons, hT, F.hasB, Bool.or_true]
  have c2 := F.noStar
  simp only [checkBuiltinCall, F.newKind, F.newSplit, F.newRow]; repeat (first | refine wpAny_loadPart_at at_C ?_ | (refine wpAny_isSubtype_exc at_C ?_; rw [c1]) | refine wpAny_staticBase_exc at_C ?_ | refine wpAny_madeBy_exc at_C ?_ | simp only [bne_self_eq_false, Bool.false_eq_true, if_false] | wp_step)
  exact q
end
section
variable {prog : Program} {w : World} {A : Around} {E : Value → Shared → Prop} {R : Result → Shared → Prop} {hp : Heap} {gs : Array GenState} {dr : Drawn} {tk : Nat} {os : OsState}
variable {nm qn : Str} {C N : Addr} {bs bm bmB : List Value} {hdct : Bool} {sn : List Str} {sub : List Value} {ab : Bool} {col : Option Bool} {dd : Option Addr} {k0 k1 k2 k3 k5 : Option Value} {B newId initId : String} {us : List Value} {kw : List (Str × Value)}
theorem kw_new (F : ExcBaseFacts B newId initId bmB) (hT : ∀ X : String, bm.contains (.type X) = bmB.contains (.type X)) (at_C : hp.get? C = some (excClassObj nm qn C N bs bm hdct sn sub ab col dd k0 k1 k2 k3 k5 newId))
    (q : R (.ok (.ret (.ref (hp.objs.size + 1)))) ⟨(hp.push { cls := .type "tuple", data := .seq us.toArray }).push { cls := .ref C, data := .fields #[.ref hp.objs.size, .none, .none, .none, .bool false, .none] }, gs, dr, tk, os⟩) (hz : us.length ≤ sizeLine) :
    codeAny (model prog w) A (.builtin newId ⟨.ref C :: us, kw⟩) R ⟨hp, gs, dr, tk, os⟩ := by
  have c0 := F.ends
  have c1 : (Value.ref C :: bm).contains (.type B) = true := by rw [List.contains_cons, hT, F.hasB, Bool.or_true]
  have c2 : (Value.ref C :: bm).contains (.type "AttributeError") = false := by rw [List.contains_cons, hT, F.noAttr]; rfl
  have c3 : (Value.ref C :: bm).contains (.type "NameError") = false := by rw [List.contains_cons, hT, F.noName]; rfl
  refine codeAny_builtinAt F.entry ?_; unfold Builtin.«BaseException.__new__»
  refine PySem.wpAt_bind ?_; show PySem.wpAt _ _ _ (stack >>= _) _ _ _
  refine PySem.wpAt_bind (PySem.wpAt_stack fun p below => PySem.wpAt_of_wpAny ?_); wp_walk
  refine PySem.wpAt_of_wpAny ?_; rw [F.owner]
  repeat (first | with_reducible refine wpAny_madeHere_exc F.canon at_C ?_ | with_reducible refine wpAny_loadPart_at at_C ?_ | (with_reducible refine wpAny_isSubtype_exc at_C ?_; first | rw [c1] | rw [c2] | rw [c3]) | wp_step)
  show R _ _; rw [Heap.size_push]; exact q
theorem kw_type (F : ExcBaseFacts B newId initId bmB) (hT : ∀ X : String, bm.contains (.type X) = bmB.contains (.type X)) {fI : Addr} {Q : Fin → Shared → Prop} (at_C : hp.get? C = some (excClassObj nm qn C N bs bm hdct sn sub ab col dd k0 k1 k2 k3 k5 newId))
    (hi : W.Looks (model prog w) hp (typeLookup (.ref C) "__init__") (some (.ref fI))) (hb : ∀ self, W.Looks (model prog w) hp (bindSpecial (.ref fI) self) (.ref fI, [self])) (hz : us.length ≤ sizeLine)
    (hq : codeAny (model prog w) A (.call (.ref fI) ⟨.ref (hp.objs.size + 1) :: us, kw⟩) (fun r s' => match r with | .ok (.ret v) => v = .none ∧ Q (.done (.ret (.ref (hp.objs.size + 1)))) s' | .ok _ => False | .error e => E e s')
      ⟨(hp.push (W.kdv_tup us)).push (PySem.HandSPX.excO C hp.objs.size), gs, dr, tk, os⟩) : wpAny (model prog w) A (Builtin.«type.__call__» ⟨.ref C :: us, kw⟩) Q E ⟨hp, gs, dr, tk, os⟩ := by
  repeat (first | with_reducible refine wpAny_loadPart_at at_C ?_ | with_reducible refine wpAny_madeBy_exc at_C ?_ | wp_step)
  refine codeAny_call_builtin_code (Code.quiet_builtin _ F.quiet) (kwN_check F hT at_C ?_); refine kw_new F hT at_C ?_ hz
  show wpAny _ _ _ _ _ _
  have kk : ∀ b o, hp.get? b = some o → ((hp.push (W.kdv_tup us)).push (PySem.HandSPX.excO C hp.objs.size)).get? b = some o := fun b o e => Heap.get?_push_of_some _ (Heap.get?_push_of_some _ e)
  have at_C2 := kk _ _ at_C
  have at_e : ((hp.push (W.kdv_tup us)).push (PySem.HandSPX.excO C hp.objs.size)).get? (hp.objs.size + 1) = some (PySem.HandSPX.excO C hp.objs.size) := by heap_get
  have cC : (Value.ref C :: bm).contains (.ref C) = true := by simp
  have j1 := hi.keeps kk
  have j2 := (hb (.ref (hp.objs.size + 1))).keeps kk
  unfold isInstance; repeat (first | with_reducible refine wpAny_loadPart_at at_e ?_ | (with_reducible refine wpAny_isSubtype_exc at_C2 ?_; rw [cC]) | wp_step)
  show wpAny _ _ (typeLookup (.ref C) _) _ _ _; refine j1.at ?_
  refine wpAny_holding (wpAny_bind (j2.at ?_)); refine wpAny_bind (wpAny_call (codeAny_mono hq fun r s' z => ?_))
  rcases r with e | (v | _ | _ | _) <;> first | exact z | exact z.elim | skip
  obtain ⟨rfl, z⟩ := z
  first | exact wpAny_pure (wpAny_pure z) | (wp_walk; exact z)
theorem kw_call (F : ExcBaseFacts B newId initId bmB) (hT : ∀ X : String, bm.contains (.type X) = bmB.contains (.type X)) {fI : Addr} (at_C : hp.get? C = some (excClassObj nm qn C N bs bm hdct sn sub ab col dd k0 k1 k2 k3 k5 newId))
    (hi : W.Looks (model prog w) hp (typeLookup (.ref C) "__init__") (some (.ref fI))) (hb : ∀ self, W.Looks (model prog w) hp (bindSpecial (.ref fI) self) (.ref fI, [self])) (hz : us.length ≤ sizeLine)
    (hq : codeAny (model prog w) (A.under (.builtin "type.__call__" ⟨.ref C :: us, kw⟩)) (.call (.ref fI) ⟨.ref (hp.objs.size + 1) :: us, kw⟩) (W.InitBack (hp.objs.size + 1) R) ⟨(hp.push (W.kdv_tup us)).push (PySem.HandSPX.excO C hp.objs.size), gs, dr, tk, os⟩) :
    codeAny (model prog w) A (.call (.ref C) ⟨us, kw⟩) R ⟨hp, gs, dr, tk, os⟩ := by
  have f1 := tc_lookup
  have f2 := tc_bind (.ref C)
  have ty : (⟨hp, gs, dr, tk, os⟩ : Shared).TypeIs (.ref C) "type" := ⟨_, at_C, rfl⟩
  refine codeAny_of_tree ?_; show wpAny _ _ (callAny (.ref C) _) _ _ _
  repeat (any_goals (first | assumption | with_reducible refine wpAny_loadPart_at at_C ?_ | wp_step))
  refine ⟨rfl, ?_⟩
  refine codeAny_call_builtin_at (Code.quiet_builtin _ (by decide +kernel)) entry_typeCall (kwT_check at_C (kw_type F hT at_C hi hb hz ?_))
  refine codeAny_mono hq fun r s' z => ?_
  rcases r with e | (v | _ | _ | _) <;> exact z
end
end MX
end
section
set_option maxHeartbeats 2000000
namespace MX
open PySem PySem.Spec PyProof.Rows L2
/-- how such an __init__ is written -/
structure InitShape (f : Str) (ps : Arguments) (body : List Stmt) (scope : Scope) : Prop where
  shape : ∃ (m : Str) (j : Nat) (p0 p1 p2 p3 p4 p5 q1 q2 q3 q4 : Pos), body = [.Expr (.Call (.Attribute (.Call (.Name "super" p0) [] [] p1) "__init__" p2) [.Constant (.str m) j p3] [] p4) p5,
    .Assign [.Attribute (.Name "self" q1) f q2] (.Name f q3) q4] ∧ (∀ env : Env, ∃ pl : Sem Bool, eval (.Call (.Attribute (.Call (.Name "super" p0) [] [] p1) "__init__" p2) [.Constant (.str m) j p3] [] p4) env = (do
      let ov ← attributeBase (.Call (.Name "super" p0) [] [] p1) "__init__" env (eval (.Call (.Name "super" p0) [] [] p1) env)
      standAt p2.atName
      let (f, first) ← holding [ov] (getMethod ov "__init__" pl)
      callWith p4 f first (backTo p4 (starEach [.Constant (.str m) j p3] env)) []))
  bind : ∀ (nm qual : Str) (cl : List (Str × Addr)) (kV doc pm : Value) (an : Option Addr) (cdv ct a u : Value), bindArgs (PySem.W.fnX nm qual ps body scope cl .none kV doc pm an cdv ct) ⟨[a, u], []⟩ = pure [(("self" : Str), a), (f, u)]
  first : ∃ ar, (ps.posonlyargs ++ ps.args).head? = some ar ∧ ar.arg = ("self" : Str)
  kind : scope.kind = .function
  co : scope.isCoroutine = false
  gen : scope.isGenerator = false
  self : scope.names.lookup ("self" : Str) = some .local
  par : scope.names.lookup f = some .local
  sup : scope.names.lookup ("super" : Str) = some .globalImplicit
  cls : scope.names.lookup ("__class__" : Str) = some .free
  noc : ∀ x ∈ scope.names, x.2 ≠ .cell
  ne : f ≠ "self"
  nd : (f == ("__debug__" : Str)) = false
  bindK : ∀ (nm qual : Str) (cl : List (Str × Addr)) (kV doc pm : Value) (an : Option Addr) (cdv ct a u : Value), bindArgs (PySem.W.fnX nm qual ps body scope cl .none kV doc pm an cdv ct) ⟨[a], [(f, u)]⟩ = pure [(("self" : Str), a), (f, u)]
/-- what the written part says of such a class -/
structure ExI (P : Program) (K : PySem.W.Frag) (C : Addr) (B newId i : String) (bmB : List Value) (f : Str) : Prop where
  q : PySem.W.excInitIn K C bmB newId = true
  ov : PySem.W.excOver K C bmB = true
  hd : PySem.W.hasDictIn K C = true
  fno : PySem.W.findIn K (.ref C) f = some none
  sa : PySem.W.findIn K (.ref C) "__setattr__" = some (some (.builtin "object.__setattr__"))
  mro : PySem.W.mroIn K C (.ref C) = some true
  sup : PySem.W.ks_superIn K C C "__init__" = some (some (.builtin i))
  subB : PySem.W.subIn K (.ref C) (.type B) = some true
  exC : PySem.W.subIn K (.ref C) (.type "BaseException") = some true
  tyC : PySem.W.typeIn K (.ref C) = some (.type "type")
  kC : PySem.W.keepIn K (.ref C) = true
  op : PySem.W.nsIn K PySem.cStatics "thirdparty.any" = some none
  ini : ∃ (fI cda cc : Addr) (nm qual : Str) (ps : Arguments) (body : List Stmt) (scope : Scope) (kV doc pm ct oc : Value) (an od : Option Addr) (osl : Array (Option Value)) (vs : Array Value) (file : Str) (tf : Tok) (ccl cl : Value) (cdd cld : Option Addr) (ccs csl : Array (Option Value)),
    PySem.W.findIn K (.ref C) "__init__" = some (some (.ref fI)) ∧ PySem.W.isFn K (.ref fI) = true ∧ K.lookup fI = some ⟨oc, od, .func (PySem.W.fnX nm qual ps body scope [("__class__", cc)] .none kV doc pm an (.ref cda) ct), osl⟩ ∧ PySem.W.codeIn K (.ref cda) qual = true ∧
    K.lookup cda = some ⟨ccl, cdd, .fields vs, ccs⟩ ∧ vs[2]? = some (.str file tf) ∧ ((P.main.file : Str) == file) = true ∧ K.lookup cc = some ⟨cl, cld, .cell (some (.ref C)), csl⟩ ∧ InitShape f ps body scope
section
variable {X : Cx} {pins : List (Addr × Obj)} {σ : L2.St} {H : Hp} {s : Shared} {C : Addr} {B newId i : String} {bmB : List Value} {f : Str} {y : V} {u : Value} {Q : XK}
theorem ns1_new {h : Heap} {dx : Addr} {f : Str} {u : Value} {y : V} (hn : h.Ns1 dx (fun z => if z = f then some u else none)) (ry : RelV y u) : ∃ mA, h.Ns1 dx mA ∧ ∀ g, RelO (([(f, y)] : List (Str × V)).lookup g) (mA g) :=
  ⟨_, hn, fun g => relO_put (fs := []) (mA := fun _ => none) ry (fun _ => True.intro) g⟩
/-- self.f = u, the first one, whatever built-in stands above -/
theorem osa_first {prog : Program} {w : World} {A : Around} {R : Result → Shared → Prop} {hp : Heap} {g : Array GenState} {d : Drawn} {t : Nat} {os : OsState} {K : PySem.W.Frag} {name : Str} {tk : Tok} {v : Value} {x : Addr} {arr : Array Value}
    (SF : StoreFacts B bmB "object.__setattr__" "object") (X : K.In hp) (hx : hp.get? x = some { cls := .ref C, data := .fields arr }) (ovr : PySem.W.excOver K C bmB = true) (hh : PySem.W.hasDictIn K C = true) (ha : PySem.W.findIn K (.ref C) name = some none)
    (kq : ∀ hN tkn dx, (∀ b o, b ≠ x → hp.get? b = some o → hN.get? b = some o) → hp.objs.size ≤ dx → dx ≠ x → hN.get? x = some { cls := .ref C, dict := some dx, data := .fields arr } →
      hN.Ns1 dx (fun y => if y = name then some v else none) → R (.ok (.ret .none)) ⟨hN, g, d, tkn, os⟩) :
    codeAny (model prog w) A (.call (.builtin "object.__setattr__") ⟨[.ref x, .str name tk, v], []⟩) R ⟨hp, g, d, t, os⟩ := by
  have lt0 : x ≠ hp.objs.size := Nat.ne_of_lt (Heap.lt_size hx)
  refine PySem.W.osa_openX (s := ⟨hp, g, d, t, os⟩) (r := none) (od := none) (ox := { cls := .ref C, data := .fields arr }) SF X ⟨hx, rfl, rfl, trivial⟩ ovr ?_ fun b => ?_
  · unfold PySem.W.takerIn
    rw [ha]
    rfl
  · obtain ⟨cd, hc, hd'⟩ := PySem.W.any_some hh
    have lcl : PySem.W.Looks (model prog w) hp (classData C) cd := PySem.W.looks_clsIn X hc
    show wpAny _ _ (Builtin.ObjectAttr.storeInOwnDict (.ref x) (.ref C) (.str name tk) name v b) _ _ _
    obtain ⟨nm, bs, mro, ns, qn, hd, sn, sb, ab, col, del⟩ := cd
    dsimp only at hd'
    subst hd'
    unfold Builtin.ObjectAttr.storeInOwnDict Builtin.ObjectAttr.ownDictForStores
    repeat (first | with_reducible refine HandSPX.store_in_new ?_ ?_ | with_reducible refine wpAny_loadPart_at hx ?_ | with_reducible refine lcl.at ?_ | wp_step)
    · exact ⟨_, #[], _, (Heap.get?_update_ne _ _ _ _ lt0.symm).trans (Heap.get?_push_at rfl rfl), rfl, fun e he => absurd he (by simp), fun _ => rfl⟩
    · intro hN tkn nsd sb
      have at1 : (hp.push { cls := .type "dict", data := .dict #[] }).get? x = some { cls := .ref C, data := .fields arr } := Heap.get?_push_of_some _ hx
      refine kq hN tkn hp.objs.size (fun b o hb ho => ?_) (Nat.le_refl _) lt0.symm ?_ nsd
      · exact (sb.2 b (Nat.ne_of_lt (Heap.lt_size ho))).trans ((Heap.get?_update_ne _ _ _ _ hb).trans (Heap.get?_push_of_some _ ho))
      · exact (sb.2 x lt0).trans (Heap.get?_update_self _ at1 rfl)
/-- super().__init__ called: the wrapper -/
theorem mw_call {prog : Program} {w : World} {A : Around} {E : Value → Shared → Prop} {h : Heap} {g : Array GenState} {d : Drawn} {tk : Nat} {os : OsState} {K : PySem.W.Frag} {x t0 q0 : Addr} {rest : List Value} {Q : Value → Shared → Prop} (FB : ExcBaseFacts B newId i bmB) (XK : K.In h)
    (q : PySem.W.excInitIn K C bmB newId = true) (hu : h.get? q0 = some (PySem.W.kxs_mw i x)) (he : h.get? x = some (PySem.HandSPX.excO C t0)) (hz : rest.length ≤ sizeLine)
    (kq : ∀ hN, (∀ b o, b ≠ x → h.get? b = some o → hN.get? b = some o) → hN.get? x = some (PySem.HandSPX.excO C h.objs.size) → Q .none ⟨hN, g, d, tk, os⟩) : wpAny (model prog w) A (call (.ref q0) rest) Q E ⟨h, g, d, tk, os⟩ := by
  obtain ⟨nmC, N', qn, bs, bm, hdct, sn, sub, ab, col, dd, k0, k1, k2, k3, k5, hC, hT⟩ := PySem.W.excInit_of XK q
  refine wpAny_call (codeAny_of_tree ?_)
  show wpAny _ A.in1 (callAny (.ref q0) ⟨rest, []⟩) _ _ _
  simp only [callAny]
  refine wpAny_bind (wpAny_load hu ?_)
  simp only [PySem.W.kxs_mw, show (Value.type "method-wrapper" == Value.type "method" || Value.type "method-wrapper" == Value.type "builtin_function_or_method" || Value.type "method-wrapper" == Value.type "method-wrapper") = true by decide, if_true]
  refine PySem.W.KFB.if_so (by decide) ?_
  refine wpAny_bind (PySem.W.check_bound_init FB.toExcCallFacts hC he rfl ?_)
  refine wpAny_bind (wpAny_pure (wpAny_pure ?_))
  refine ⟨plainId_quiet FB.init.plain _, codeAny_builtin FB.initEntry ?_⟩
  rw [Around.under_plainId FB.init.plain _]
  exact PySem.W.exc_init_tree (cls := .ref C) (t0 := t0) (dv := none) (c2 := .none) (c3 := .none) (b4 := .bool false) he hz fun hN k e _ => kq hN k e
/-- C(u), C(f = u) -/
theorem exc_madeG {us : List Value} {kw : List (Str × Value)} (hw : (us = [u] ∧ kw = []) ∨ (us = [] ∧ kw = [(f, u)])) (I : Inv X pins σ H s) (FB : ExcBaseFacts B newId i bmB) (KF : PySem.W.KxsFacts B i) (SF : StoreFacts B bmB "object.__setattr__" "object") (T : ExI X.prog X.K C B newId i bmB f) (hr : Room 1 X.A) (hsu : X.mg "super" = none)
    (htop : (X.prog.main.scope.names.lookup ("super" : Str)).isSome = false) (ry : RelV y u) (q : ∀ d, H d = none → Q (.ref C) (some d) (upd H d (.xd [(f, y)]))) :
    wpAny (model X.prog X.w) X.A (call (.ref C) us kw) (MkP X pins σ Q) X.xe s := by
  obtain ⟨fI, cda, cc, nm, qual, ps, body, scope, kV, doc, pm, ct, oc, an, od, osl, vs, file, tf, ccl, cl, cdd, cld, ccs, csl, iC, tI, kI, cI, kcd, hvs, hfile, kcc, Sh⟩ := T.ini
  obtain ⟨m, j, p0, p1, p2, p3, p4, p5, q1, q2, q3, q4, hbody, hform⟩ := Sh.shape
  obtain ⟨ar, har, harn⟩ := Sh.first
  obtain ⟨hp, g, dr, tk, os⟩ := s
  have KI : X.K.In hp := I.kIn
  obtain ⟨nmC, N', qn, bs, bm, hdct, sn, sub, ab, col, dd, k0, k1, k2, k3, k5, hC, hT⟩ := PySem.W.excInit_of KI T.q
  have hus : us.length ≤ sizeLine := by
    rw [sizeLine_eq]
    rcases hw with ⟨e, _⟩ | ⟨e, _⟩
    · rw [e]; exact (show 1 ≤ 16777216 by decide)
    · rw [e]; exact (show 0 ≤ 16777216 by decide)
  have kk : ∀ b o, hp.get? b = some o → ((hp.push (PySem.W.kdv_tup us)).push (PySem.HandSPX.excO C hp.objs.size)).get? b = some o := fun b o e => Heap.get?_push_of_some _ (Heap.get?_push_of_some _ e)
  have hget : ((hp.push (PySem.W.kdv_tup us)).push (PySem.HandSPX.excO C hp.objs.size)).get? (hp.objs.size + 1) = some (PySem.HandSPX.excO C hp.objs.size) := by heap_get
  have tI' : PySem.W.typeIn X.K (.ref fI) = some (.type "function") := beq_iff_eq.mp tI
  refine wpAny_call (kw_call FB hT hC (PySem.W.looks_findIn KI iC) (fun self => PySem.W.bind_fn KI self tI') hus ?_)
  obtain ⟨h1, hh1⟩ : ∃ h1, h1 = (hp.push (PySem.W.kdv_tup us)).push (PySem.HandSPX.excO C hp.objs.size) := ⟨_, rfl⟩
  obtain ⟨a, ea⟩ : ∃ a, a = hp.objs.size + 1 := ⟨_, rfl⟩
  rw [← hh1, ← ea]
  rw [← hh1] at kk hget
  rw [← ea] at hget
  have K1 : X.K.In h1 := KI.keeps kk
  have hno : h1.NoLimit := by
    have := I.mod.nolimit.keeps I.bk
    exact this.keeps kk
  have an0 : hp.get? a = none := by
    cases e : hp.get? a with
    | none => rfl
    | some o =>
      have := Heap.lt_size e
      rw [ea] at this
      exact absurd this (Nat.not_lt.mpr (Nat.le_succ _))
  refine ks_codeAny_call_defAt (binds := [(("self" : Str), .ref a), (f, u)]) (Room.depth (Room.make hr C us kw)) (K1 _ _ kI) rfl hno (PySem.W.codeRec_of K1 cI) rfl (BindsTo.of_eq (by
    rcases hw with ⟨e1, e2⟩ | ⟨e1, e2⟩
    · rw [e1, e2]; exact Sh.bind _ _ _ _ _ _ _ _ _ _ _
    · rw [e1, e2]; exact Sh.bindK _ _ _ _ _ _ _ _ _ _ _)) Sh.noc (fun x hx => ?_) (fun h2 hns k2 => ?_) Sh.co Sh.gen Sh.kind
  · rcases List.mem_cons.mp hx with rfl | hx
    · exact Sh.self
    · rw [List.mem_singleton.mp hx]; exact Sh.par
  · obtain ⟨env, henv⟩ : ∃ env, env = callEnv (PySem.W.fnX nm qual ps body scope [("__class__", cc)] .none kV doc pm an (.ref cda) ct) h1.objs.size fI := ⟨_, rfl⟩
    rw [← henv]
    subst hbody
    have hks : env.kindOf "super" = some .globalImplicit := by rw [henv]; exact Sh.sup
    have hkc : env.kindOf "__class__" = some .free := by rw [henv]; exact Sh.cls
    have hkS : env.kindOf "self" = some .local := by rw [henv]; exact Sh.self
    have hkF : env.kindOf f = some .local := by rw [henv]; exact Sh.par
    have hk : env.scope.kind = .function := by rw [henv]; exact Sh.kind
    have hL : env.locals = h1.objs.size := by rw [henv]; rfl
    have hG : env.globals = mainGlobals := by rw [henv]; rfl
    have hBn : env.builtins = builtinsNs := by rw [henv]; rfl
    have hcl : env.cells.lookup ("__class__" : Str) = some cc := by rw [henv]; rfl
    have K2 : X.K.In h2 := K1.keeps k2
    have ha2 : h2.get? a = some (PySem.HandSPX.excO C hp.objs.size) := k2 _ _ hget
    have bk : X.base.StaysIn h2 := fun b o e => k2 _ _ (kk _ _ (I.bk b o e))
    obtain ⟨mb, hb1, hb2⟩ := I.mod.blt
    have aL : a ≠ h1.objs.size := Nat.ne_of_lt (Heap.lt_size hget)
    have hIs : PySem.W.InstAt h2 a (PySem.HandSPX.excO C hp.objs.size) C none := ⟨ha2, rfl, rfl, trivial⟩
    obtain ⟨pl, hpl⟩ := hform env
    refine ks_wpAt_execs_cons (ks_wpAt_Expr_any (ks_wpAt_MethodCall (pl := pl) (ks_wpAt_super_base hks hkc rfl (by rw [henv]; rfl) (K2 _ _ kI) rfl har (by rw [henv]; rfl) (K2 _ _ kcd) rfl hvs hfile htop ?_) hpl) (by unfold interactive; rw [hk]; rfl) rfl)
    refine PySem.W.ks_loadName_global hk hks (Calls.loadGlobal_builtin (by rw [hG]; exact I.mod.glob.keeps bk) hsu (by rw [hBn]; exact hb1.keeps bk) ((hb2 "super" (by decide)).trans (by rfl)) ⟨rfl, ?_⟩)
    refine wpAny_loadName_free hk hkc hcl ⟨_, K2 _ _ kcc, rfl⟩ ?_
    rw [harn]
    refine wpAny_loadName_local (m := fun x => ([(("self" : Str), .ref a), (f, u)] : List (Str × Value)).reverse.lookup x) hk hkS (by rw [hL]; exact hns) (v := .ref a) (by
      have : (("self" : Str) == f) = false := by simpa using fun z => Sh.ne z.symm
      simp [List.lookup, this]) ?_
    obtain ⟨nmC, N', qn, bs, bm, hdct, sn, sub, ab, col, dd, k0, k1, k2', k3, k5, hC2, hT⟩ := PySem.W.excInit_of K2 T.q
    refine ks_wpAny_isType_cls hC2 rfl ⟨rfl, ?_⟩
    refine ks_wpAny_call_super hC2 rfl ha2 rfl (fun c e => nomatch e) (PySem.W.looks_mroIn K2 T.mro) (fun h3 e3 k3 => ?_)
    have K3 : X.K.In h3 := K2.keeps k3
    have ha3 : h3.get? a = some (PySem.HandSPX.excO C hp.objs.size) := k3 _ _ ha2
    have hIs3 : PySem.W.InstAt h3 a (PySem.HandSPX.excO C hp.objs.size) C none := ⟨ha3, rfl, rfl, trivial⟩
    have hI3 : PySem.W.Looks (model X.prog X.w) h3 (isInstance (.ref a) (.type B)) true := hIs3.type.andThen (PySem.W.looks_subIn K3 T.subB)
    obtain ⟨cd, hcd, hsup⟩ : ∃ cd, PySem.W.clsIn X.K C = some cd ∧ PySem.W.alongIn X.K "__init__" ((cd.mro.dropWhile (· != .ref C)).drop 1) = some (some (.builtin i)) := by
      have e := T.sup
      unfold PySem.W.ks_superIn at e
      cases z : PySem.W.clsIn X.K C with
      | none => rw [z] at e; cases e
      | some cd => rw [z] at e; exact ⟨cd, rfl, e⟩
    refine PySem.W.kxs_getMethod KF e3 (PySem.W.looks_opaque K3 T.op) (l₀ := cd.mro) (fun A Q E s k q => wpAny_bind ((PySem.W.looks_clsIn K3 hcd) A _ E s k (wpAny_pure q))) rfl K3 hsup hI3 (PySem.W.ks_ne K3 hIs3 hcd) rfl ?_
    obtain ⟨q0, eq0⟩ : ∃ q0, q0 = h3.objs.size := ⟨_, rfl⟩
    obtain ⟨h4, eh4⟩ : ∃ h4, h4 = h3.push (PySem.W.kxs_mw i a) := ⟨_, rfl⟩
    rw [← eq0, ← eh4]
    have k4 : ∀ b o, h3.get? b = some o → h4.get? b = some o := fun b o e => by rw [eh4]; exact Heap.get?_push_of_some _ e
    have hq4 : h4.get? q0 = some (PySem.W.kxs_mw i a) := by rw [eh4, eq0]; exact Heap.get?_push_at rfl rfl
    have hse : starEach [.Constant (.str m) j p3] env = (false, eval (.Constant (.str m) j p3) env) :: starEach [] env := by rfl
    show wpAny _ _ (callWith p4 (.ref q0) [] (backTo p4 (starEach [.Constant (.str m) j p3] env)) []) _ _ _
    rw [hse]
    refine PySem.W.kxs_callWith (i := i) (x := a) (by rfl) (Calls.evalArgs_plain ?_)
    refine Calls.spliced_cons (@Calls.Constant_str _ _ _ _ env m j p3 _ ?_)
    refine Calls.spliced_nil ⟨hq4, ?_⟩
    have K4 : X.K.In h4 := K3.keeps k4
    have ha4 : h4.get? a = some (PySem.HandSPX.excO C hp.objs.size) := k4 _ _ ha3
    refine mw_call FB K4 T.q hq4 ha4 (by rw [sizeLine_eq]; exact (show 1 ≤ 16777216 by decide)) (fun h5 k5 ha5 => ?_)
    have kL5 : ∀ b o, b ≠ a → h2.get? b = some o → h5.get? b = some o := fun b o hb e => k5 b o hb (k4 _ _ (k3 _ _ e))
    have hns5 : h5.Ns env.locals (fun x => ([(("self" : Str), .ref a), (f, u)] : List (Str × Value)).reverse.lookup x) := by
      rw [hL]
      exact hns.at fun o e => kL5 _ o (Ne.symm aL) e
    have K5 : X.K.In h5 := fun b o e => by
      have e2 := K2 b o e
      by_cases hb : b = a
      · have e1 := K1 b o e
        have e0 := KI b o e
        rw [hb, an0] at e0; cases e0
      · exact kL5 b o hb e2
    refine ks_wpAt_execs_cons (ks_wpAt_Assign_Attr (wpAt_of_wpAny (wpAny_Name (wpAny_loadName_local hk hkF hns5 (v := u) (by simp [List.lookup]) ?_) Sh.nd)) rfl)
    refine wpAny_Name (wpAny_loadName_local hk hkS hns5 (v := .ref a) (by
      have : (("self" : Str) == f) = false := by simpa using fun z => Sh.ne z.symm
      simp [List.lookup, this]) ?_) (by decide)
    have hIs5 : PySem.W.InstAt h5 a (PySem.HandSPX.excO C h4.objs.size) C none := ⟨ha5, rfl, rfl, trivial⟩
    refine PySem.W.set_plain K5 hIs5 T.sa (osa_first SF K5 ha5 T.ov T.hd T.fno fun h6 tk6 dx k6 dn dne hx6 hn6 => ?_)
    refine wpAt_of_wpAny (wpAny_execs_nil ?_)
    refine ⟨rfl, ?_⟩
    have kk6 : ∀ b o, hp.get? b = some o → h6.get? b = some o := fun b o e => by
      have hb : b ≠ a := fun z => by rw [z, an0] at e; cases e
      exact k6 b o hb (kL5 b o hb (k2 _ _ (kk b o e)))
    have sz1 : hp.objs.size ≤ dx := by
      refine Nat.le_trans ?_ dn
      have : ∀ b o, h2.get? b = some o → b < h5.objs.size := fun b o e => by
        by_cases hb : b = a
        · rw [hb]; exact Heap.lt_size ha5
        · exact Heap.lt_size (kL5 b o hb e)
      have := this a _ ha2
      rw [ea] at this
      exact Nat.le_of_lt (Nat.lt_of_succ_lt this)
    obtain ⟨G, g1, g2⟩ := restrict h6 fun b => decide (b ≠ a)
    have gk : ∀ b, b ≠ a → G.get? b = h6.get? b := fun b hb => g1 b (decide_eq_true hb)
    have ge : G.get? a = none := g2 a (decide_eq_false fun z => z rfl)
    have kG : ∀ b o, G.get? b = some o → h6.get? b = some o := fun b o e => by
      by_cases hb : b = a
      · rw [hb, ge] at e; cases e
      · rw [← gk b hb]; exact e
    have kh : ∀ b o, hp.get? b = some o → G.get? b = some o := fun b o e => by
      have hb : b ≠ a := fun z => by rw [z, an0] at e; cases e
      rw [gk b hb]; exact kk6 b o e
    obtain ⟨mA, x1, x2⟩ := ns1_new (y := y) hn6 ry
    have J := I.laid (t' := tk6) (a := dx) (o := .xd [(f, y)]) (h' := G) kh sz1 ⟨mA, x1.at fun o z => by rw [gk dx dne]; exact z, x2⟩
    have hdx : H dx = none := I.hok.fresh sz1
    have na : H a = none := I.hok.fresh (by rw [ea]; exact Nat.le_succ _)
    exact ⟨a, _, _, _, _, .ref C, some dx, rfl, J, kG, ge, hx6, ⟨rfl, rfl⟩, rfl, rfl, by rw [upd_ne (Ne.symm dne)]; exact na, rfl, I.bare, raises_own T.exC T.tyC, q dx hdx⟩
theorem exc_made (I : Inv X pins σ H s) (FB : ExcBaseFacts B newId i bmB) (KF : PySem.W.KxsFacts B i) (SF : StoreFacts B bmB "object.__setattr__" "object") (T : ExI X.prog X.K C B newId i bmB f) (hr : Room 1 X.A) (hsu : X.mg "super" = none)
    (htop : (X.prog.main.scope.names.lookup ("super" : Str)).isSome = false) (ry : RelV y u) (q : ∀ d, H d = none → Q (.ref C) (some d) (upd H d (.xd [(f, y)]))) :
    wpAny (model X.prog X.w) X.A (call (.ref C) [u]) (MkP X pins σ Q) X.xe s := exc_madeG (.inl ⟨rfl, rfl⟩) I FB KF SF T hr hsu htop ry q
end
end MX
end
section
set_option maxHeartbeats 2000000
namespace MX
open PySem PySem.Spec PyProof.Rows L2
/-- what the written part says of a class whose exceptions are asked -/
structure ExQ (K : PySem.W.Frag) (C : Addr) : Prop where
  ga : PySem.W.findIn K (.ref C) "__getattribute__" = some (some (.builtin "BaseException.__getattribute__"))
  gg : PySem.W.findIn K (.ref C) "__getattr__" = some none
  exC : PySem.W.subIn K (.ref C) (.type "BaseException") = some true
  hd : PySem.W.hasDictIn K C = true
  ha : PySem.W.findIn K (.ref C) "__class__" = some (some (.builtin "object.__class__"))
  hn : PySem.W.specialIn K (.builtin "object.__class__") "__get__" = some (some (.builtin "getset_descriptor.__get__"))
  ht : PySem.W.takesIn K (.builtin "object.__class__") = some true
  hm : PySem.W.mroIn K C (.type "object") = some true
def exqB (K : PySem.W.Frag) (C : Addr) : Bool :=
  decide (PySem.W.findIn K (.ref C) "__getattribute__" = some (some (.builtin "BaseException.__getattribute__"))) && (decide (PySem.W.findIn K (.ref C) "__getattr__" = some none) && (decide (PySem.W.subIn K (.ref C) (.type "BaseException") = some true) && (PySem.W.hasDictIn K C &&
  (decide (PySem.W.findIn K (.ref C) "__class__" = some (some (.builtin "object.__class__"))) && (decide (PySem.W.specialIn K (.builtin "object.__class__") "__get__" = some (some (.builtin "getset_descriptor.__get__"))) && (decide (PySem.W.takesIn K (.builtin "object.__class__") = some true) &&
  decide (PySem.W.mroIn K C (.type "object") = some true)))))))
theorem exqB_ok {K : PySem.W.Frag} {C : Addr} (h : exqB K C = true) : ExQ K C := by
  unfold exqB at h
  simp only [Bool.and_eq_true, decide_eq_true_eq] at h
  obtain ⟨h1, h2, h3, h4, h5, h6, h7, h8⟩ := h
  exact ⟨h1, h2, h3, h4, h5, h6, h7, h8⟩
def ssRaise (c f : Str) (te : Sx) : Ss := fun sp S => bindS (te sp S) sp fun v S1 => .exc ⟨c, [(f, v)]⟩ sp S1
section
variable {X : Cx} {e : Expr} {te : Sx} {x f : Str} {p pos pos' : Pos} {C : Addr} {B newId i : String} {bmB : List Value}
theorem ss_raise (FB : ExcBaseFacts B newId i bmB) (KF : PySem.W.KxsFacts B i) (SF : StoreFacts B bmB "object.__setattr__" "object") (T : ExI X.prog X.K C B newId i bmB f) (hr : Room 1 X.A) (hsu : X.mg "super" = none)
    (htop : (X.prog.main.scope.names.lookup ("super" : Str)).isSome = false) (hc : X.calm = true) (hg : Gl X x) (hm : X.mg x = some (.ref C)) (ha : PE X e (rdE X te))
    (hdb : (x == ("__debug__" : Str)) = false := by decide) (he : starEach [e] X.env = (false, eval e X.env) :: starEach [] X.env := by rfl) (hpl : (backTo pos (starEach [] X.env)).any (·.1) = false := by rfl) :
    PS X (.Raise (some (.Call (.Name x p) [e] [] pos)) none pos') (rdS X (ssRaise x f te)) := by
  refine ⟨fun pins s σ H D I ⟨g, sp, S, hS, hE, pp⟩ => ?_⟩
  have mk : L2.PMk X (.Call (.Name x p) [e] [] pos) (fun σ H Q => rdE X te σ H fun y H1 => ∀ d, H1 d = none → Q (.ref C) (some d) (upd H1 d (.xd [(f, y)]))) := fun pins s σ H Q I h => by
    refine wpAny_Call_Name_kw (ld_glob I hg hm ?_ hdb)
    refine PySem.W.callWith_K (h₀ := X.base) I.ok.mod.kin T.kC (thn ((pa_cons (t := tNil) ha pa_nil he).run pos pins s σ H (fun vs H1 => ∃ y, vs = [y] ∧ ∀ d, H1 d = none → Q (.ref C) (some d) (upd H1 d (.xd [(f, y)]))) I ?_) fun us s1 ⟨vs, H1, I1, r1, y, ev, q1⟩ => ⟨I1.kIn, ?_⟩) he hpl
    · exact h.mono fun y H1 q => ⟨y, rfl, q⟩
    · subst ev
      obtain ⟨u, eu, rx⟩ := vals1 r1
      subst eu
      exact exc_made I1 FB KF SF T hr hsu htop rx q1
  cases ht : te sp S with
  | stuck =>
    unfold ssRaise at pp
    simp only [ht] at pp
    exact pp.elim
  | exc z S' =>
    unfold ssRaise at pp
    simp only [ht] at pp
    refine (ps_raise (W := fun _ _ _ _ => False) hc takes0 mk).run pins s σ H D I ⟨g, sp, S, hS, hE, ?_⟩
    rw [ht]
    exact pp
  | ok v S' =>
    unfold ssRaise at pp
    simp only [ht] at pp
    refine (ps_raise (W := WishX X g sp ⟨x, [(f, v)]⟩ S') hc pp mk).run pins s σ H D I ⟨g, sp, S, hS, hE, ?_⟩
    rw [ht]
    intro b H1 g1 l1 q1 r1 d hd
    obtain ⟨q2, l2⟩ := q1.froze (o := .xd [(f, b)]) hd
    exact ⟨_, l1.trans l2, q2, hE.mono (l1.trans l2), C, rfl, hm, d, [(f, b)], rfl, upd_same, .cons ⟨rfl, RepV.mono l2 _ _ r1⟩ .nil⟩
end
def excOf (S : Sto) : PV → Option (Str × List (Str × PV))
  | .ref n => match S[n]? with
    | some (.exc c fs) => some (c, fs)
    | _ => none
  | _ => none
def sxFld (cs : List Str) (f : Str) (te : Sx) : Sx := fun sp S => (te sp S).bind fun v S1 => match excOf S1 v with
  | some (c, fs) => if c ∈ cs then (match fs.lookup f with
    | some y => .ok y S1
    | none => .stuck) else .stuck
  | none => .stuck
/-- sub: of which class the instances are instances of the one asked for -/
def sxIsX (sub : Str → Option Bool) (te : Sx) : Sx := fun sp S => (te sp S).bind fun v S1 => match excOf S1 v with
  | some (c, _) => (match sub c with
    | some b => .ok (.bl b) S1
    | none => .stuck)
  | none => .stuck
theorem excOf_rep {K : PySem.W.Frag} {mg : MP} {g : Gh} {S : Sto} {H : Hp} {v : PV} {x : V} {c : Str} {fs : List (Str × PV)} (hS : RepS K mg g S H) (r : RepV K g v x) (h : excOf S v = some (c, fs)) :
    ∃ a C, x = .ref a ∧ mg.mg c = some (.ref C) ∧ ((∃ dx ws, H a = some (ExV C dx a) ∧ H dx = some (.xd ws) ∧ RepF K g fs ws) ∨ (fs = [] ∧ H a = some (ExO (.ref C) a))) := by
  cases v with
  | ref n =>
    unfold excOf at h
    cases hn : S[n]? with
    | none => simp [hn] at h
    | some so =>
      cases so with
      | exc c' fs' =>
        simp only [hn, Option.some.injEq, Prod.mk.injEq] at h
        obtain ⟨rfl, rfl⟩ := h
        obtain ⟨a, ex, em⟩ := r
        obtain ⟨C, mC, ⟨dx, ws, ha, hdx, rF⟩ | z⟩ := hS.ob n _ a hn em
        · exact ⟨a, C, ex, mC, .inl ⟨dx, ws, ha, hS.fz _ _ hdx, rF⟩⟩
        · exact ⟨a, C, ex, mC, .inr z⟩
      | _ => simp [hn] at h
  | _ => simp [excOf] at h
theorem RepF.look {K : PySem.W.Frag} {g : Gh} {f : Str} {y : PV} : ∀ {fs : List (Str × PV)} {ws : List (Str × V)}, RepF K g fs ws → fs.lookup f = some y → ∃ v, ws.lookup f = some v ∧ RepV K g y v
  | _, _, .nil, e => by cases e
  | _, _, @Paired.cons _ _ _ p q _ _ r t, e => by
    obtain ⟨p1, p2⟩ := p
    obtain ⟨q1, q2⟩ := q
    obtain ⟨r1, r2⟩ := r
    dsimp only at r1 r2
    subst r1
    rw [List.lookup_cons] at e ⊢
    cases hb : (f == p1) with
    | true => rw [hb] at e; cases e; exact ⟨q2, rfl, r2⟩
    | false => rw [hb] at e; exact RepF.look t e
section
variable {X : Cx} {e : Expr} {te : Sx} {x f : Str} {p p2 pos : Pos} {D : Addr}
theorem se_fld {cs : List Str} (hcs : ∀ c ∈ cs, ∀ C : Addr, X.mg c = some (.ref C) → ExQ X.K C ∧ PySem.W.findIn X.K (.ref C) f = some none) (he : PE X e (rdE X te)) (hb : attributeBase e f X.env (eval e X.env) = eval e X.env := by rfl) :
    PE X (.Attribute e f pos) (rdE X (sxFld cs f te)) := by
  refine ⟨fun pins s σ H Q I ⟨g, sp, S, hS, hE, pp⟩ => ?_⟩
  refine attr_of hb (thn (he.run pins s σ H _ I (rdE.fst hS hE pp)) fun u s1 hh => ?_)
  obtain ⟨x, H1, I1, rx, v, g1, S1, l1, q1, e1, r1, p1⟩ := hh
  cases hx : excOf S1 v with
  | none => simp only [hx] at p1; exact p1.elim
  | some cf =>
    obtain ⟨c, fs⟩ := cf
    simp only [hx] at p1
    by_cases hc : c ∈ cs
    case neg => rw [if_neg hc] at p1; exact p1.elim
    rw [if_pos hc] at p1
    cases hl : fs.lookup f with
    | none => simp only [hl] at p1; exact p1.elim
    | some y =>
      simp only [hl] at p1
      obtain ⟨a, C, ex, mC, ⟨dx, ws, ha, hdx, rF⟩ | ⟨z, _⟩⟩ := excOf_rep q1 r1 hx
      case inr => rw [z] at hl; cases hl
      obtain ⟨T, hno⟩ := hcs c hc C mC
      obtain ⟨v, hv, rv⟩ := RepF.look rF hl
      subst ex
      obtain rfl : u = Value.ref a := rx
      obtain ⟨oe, vs, ho, ecls, edict, edata⟩ := exV_at I1.hok ha
      obtain ⟨mA, hns, hr⟩ := (show ObjOk X.prog X.w H1 s1.heap dx (.xd ws) from I1.hok dx _ hdx)
      obtain ⟨od, hod, hlk⟩ := lookIn_ns hns
      obtain ⟨u, hu, ru⟩ := RelO.some_of (v := v) (o := mA f) (by rw [← hv]; exact hr f)
      have J : PySem.W.InstAt s1.heap a oe C (some od) := ⟨ho, ecls, by unfold PySem.W.notCls; rw [edata] <;> rfl, by rw [edict]; exact hod⟩
      exact HandSPX.exc_get I1.kIn J T.ga T.gg T.exC (PySem.W.findObj_own T.hd hno rfl (by rw [hlk, hu])) (handed_of ru) ⟨v, H1, I1.tok _, ru, p1 v H1 g1 (.refl _) q1 rv⟩
/-- isinstance(e, c), e a caught exception -/
def rIsV (K : PySem.W.Frag) : List V → Hp → VK → Prop := fun xs H Q => ∃ (a C : Addr) (c : V) (cv : Value) (b : Bool), xs = [.ref a, c] ∧ ((∃ (dx : Addr) (ws : List (Str × V)), H a = some (ExV C dx a) ∧ H dx = some (.xd ws)) ∨ H a = some (ExO (.ref C) a)) ∧ ExQ K C ∧ (∀ u, RelV c u → u = cv) ∧ PySem.W.kitOne K (.ref C) cv = some b ∧ Q (.bl b) H
theorem call_isV : CallR X (.builtin "isinstance") (rIsV X.K) := by
  intro pins s σ H xs us Q I r h
  obtain ⟨a, C, c, cv, b, rfl, hh, T, hcv, e, q⟩ := h
  cases r with
  | cons rx rr =>
    cases rr with
    | cons rt rr =>
      cases rr
      cases rx
      have ec := hcv _ rt
      subst ec
      obtain ⟨cd, hcd, _⟩ := PySem.W.any_some T.hd
      rcases hh with ⟨dx, ws, ha, hdx⟩ | ha
      · obtain ⟨oe, vs, ho, ecls, edict, edata⟩ := exV_at I.hok ha
        obtain ⟨mA, hns, hr⟩ := (show ObjOk X.prog X.w H s.heap dx (.xd ws) from I.hok dx _ hdx)
        obtain ⟨od, hod, hlk⟩ := lookIn_ns hns
        have J : PySem.W.InstAt s.heap a oe C (some od) := ⟨ho, ecls, by unfold PySem.W.notCls; rw [edata] <;> rfl, by rw [edict]; exact hod⟩
        exact PySem.W.kia_one (PySem.W.kitx_exc (od := some od) (by rw [hcd]; rfl) T.ga T.gg T.exC T.ha T.hn T.ht T.hm) I.kIn J e (fun z => nomatch z) fun tk => ⟨.bl b, H, I.kept (t' := tk) fun _ _ z => z, rfl, q⟩
      · obtain ⟨⟨oe, vs, ho, hz, edata, _⟩, _, _⟩ := I.hok a _ ha
        have J : PySem.W.InstAt s.heap a oe C none := ⟨ho, hz.1, by unfold PySem.W.notCls; rw [edata] <;> rfl, by rw [hz.2]; trivial⟩
        exact PySem.W.kia_one (PySem.W.kitx_exc (od := none) (by rw [hcd]; rfl) T.ga T.gg T.exC T.ha T.hn T.ht T.hm) I.kIn J e (fun z => nomatch z) fun tk => ⟨.bl b, H, I.kept (t' := tk) fun _ _ z => z, rfl, q⟩
theorem se_isX {sub : Str → Option Bool} {v : V} {u : Value} (hv : RelV v u) (hvv : ∀ w, RelV v w → w = u) (hD : PE X (.Name x p2) (tC v)) (hs : ∀ c b, sub c = some b → ∀ C : Addr, X.mg c = some (.ref C) → ExQ X.K C ∧ PySem.W.kitOne X.K (.ref C) u = some b)
    (he : PE X e (rdE X te)) (hg : Gl X "isinstance") (hm : X.mg "isinstance" = none) (hse : starEach [e, .Name x p2] X.env = (false, eval e X.env) :: starEach [.Name x p2] X.env := by rfl) :
    PE X (.Call (.Name "isinstance" p) [e, .Name x p2] [] pos) (rdE X (sxIsX sub te)) := by
  refine (pe_callB (call_isV (X := X)) hg hm (by decide +kernel) (pa_cons he (pa_cons hD pa_nil) hse) (he := hse)).imp fun σ H Q ⟨g, sp, S, hS, hE, pp⟩ => ?_
  refine (rdE.fst hS hE pp).mono fun y H1 ⟨a, g1, S1, l1, q1, e1, r1, p1⟩ => ?_
  cases hx : excOf S1 a with
  | none => simp only [hx] at p1; exact p1.elim
  | some cf =>
    obtain ⟨c, fs⟩ := cf
    simp only [hx] at p1
    cases hb : sub c with
    | none => simp only [hb] at p1; exact p1.elim
    | some b =>
      simp only [hb] at p1
      obtain ⟨a', C, ex, mC, hh⟩ := excOf_rep q1 r1 hx
      obtain ⟨T, hk⟩ := hs c b hb C mC
      refine ⟨a', C, v, u, b, by rw [ex], ?_, T, hvv, hk, p1 _ H1 g1 (.refl _) q1 rfl⟩
      rcases hh with ⟨dx, ws, ha, hdx, _⟩ | ⟨_, ha⟩
      · exact .inl ⟨dx, ws, ha, hdx⟩
      · exact .inr ha
end
end MX
end
section
set_option maxHeartbeats 2000000
namespace MX
open PySem PySem.Spec PyProof.Rows L2
section
variable {K : PySem.W.Frag} {mg : MP} {g : Gh} {S : Sto} {H H' : Hp}
end
section
variable {X : Cx} {pins : List (Addr × Obj)} {σ : L2.St} {H : Hp} {s : Shared}
end
/-- a lambda at the address f, with what it captured -/
structure Clo where
  f : Addr
  xs : List PV
  vs : List V
abbrev Clo.pv (c : Clo) : PV := .adr c.f c.xs c.vs
/-- x(), x the slot i that holds the lambda -/
noncomputable def sxAct (c : Clo) (i : Nat) (act : Sto → Out PV) : Sx := open Classical in fun sp S => if sp[i]? = some (some c.pv) then act S else .stuck
/-- a context of the def that got the lambda -/
abbrev TrB (P : Program) (w : World) (K : PySem.W.Frag) (mg : Str → Option Value) (base : Heap) (N : List Str) (q : Str) (sc : Scope) (f : Addr) (cd : Value) (A : Around) (outer : List Env) (s : Shared) (H : Hp) (pn : List (Addr × Obj)) (xe : Value → Shared → Prop) : Cx :=
  (cxOf (L2.CX P w) P w K mg base N q sc f cd A outer s H fun _ _ _ => False).tr pn xe
/-- calling the lambda does act, in the defs entered at s -/
def Acts (P : Program) (w : World) (K : PySem.W.Frag) (mg : Str → Option Value) (base : Heap) (A : Around) (outer : List Env) (s : Shared) (H : Hp) (c : Clo) (act : Sto → Out PV) : Prop :=
  ∀ (N : List Str) (q : Str) (sc : Scope) (g : Addr) (cd : Value) (pn : List (Addr × Obj)) (xe : Value → Shared → Prop) (i : Nat) (a : Str) (p1 p2 : Pos), N[i]? = some a → Vis sc a → (a == ("__debug__" : Str)) = false → (a == ("__classdict__" : Str)) = false →
    PE (TrB P w K mg base N q sc g cd A outer s H pn xe) (.Call (.Name a p1) [] [] p2) (rdE (TrB P w K mg base N q sc g cd A outer s H pn xe) (sxAct c i act))
/-- the def at g is handed a lambda, and tells m of what it does -/
structure LamG (P : Program) (w : World) (K : PySem.W.Frag) (mg : Str → Option Value) (base : Heap) (k : Nat) (g : Addr) (m : (Sto → Out PV) → Sto → Out PV) : Prop where
  run : ∀ (A : Around) (outer : List Env) (s : Shared) (H : Hp) (c : Clo) (act : Sto → Out PV) (gh : Gh) (S : Sto) (Q : VK), Room k A → A.guards = some [] → Env0 P w K mg base A outer s H → RepS K ⟨mg, P, w⟩ gh S H → RepVs K gh c.xs c.vs → Acts P w K mg base A outer s H c act →
    (match m act S with
      | .ok v S' => ∀ b H' g', gh.le g' → RepS K ⟨mg, P, w⟩ g' S' H' → RepV K g' v b → Q b H'
      | _ => False) → codeAny (model P w) A (.call (.ref g) ⟨[.ref c.f], []⟩) (CR (L2.CX P w) outer P w H s Q fun _ _ _ => False) s
section
variable {X : Cx} {pins : List (Addr × Obj)} {σ : L2.St} {H : Hp} {s : Shared}
end
section
variable {X : Cx}
end
theorem LamG.mono {P : Program} {w : World} {K : PySem.W.Frag} {mg : Str → Option Value} {base : Heap} {j k : Nat} {g : Addr} {m : (Sto → Out PV) → Sto → Out PV} (F : LamG P w K mg base j g m) (h : j ≤ k) : LamG P w K mg base k g m :=
  ⟨fun A outer s H c act gh S Q hr => F.run A outer s H c act gh S Q (hr.mono h)⟩
section
variable {X : Cx}
end
section
variable {P : Program} {w : World} {K : PySem.W.Frag} {mg : Str → Option Value} {base : Heap} {x qual : Str} {params : Arguments} {body : List Stmt} {scope : Scope} {f : Addr} {fd : FuncData}
end
end MX
end
section
set_option maxHeartbeats 2000000
namespace MX
open PySem PySem.Spec PyProof.Rows L2
abbrev InitW : Type := Option (Str × Str × Arguments × FuncBody × Scope × Addr × List Str × Addr)
def initW (K : PySem.W.Frag) (x : Str) : InitW := match K.lookup (He.ma K (He.ga K x) "__init__") with
  | some ⟨_, _, .func fd, _⟩ => some (fd.name, fd.qualname, fd.params, fd.body, fd.scope, fd.globals, fd.closure.map (·.1), fd.builtins)
  | _ => none
/-- an own exception class whose __init__ keeps one field -/
structure ExD where
  x : Str
  f : Str
  qual : Str
  params : Arguments
  body : List Stmt
  scope : Scope
  B : String
  newId : String
  i : String
  bm : List Value
def ExD.val (d : ExD) : InitW := some ("__init__", d.qual, d.params, .stmts d.body, d.scope, mainGlobals, ["__class__"], builtinsNs)
/-- .. what else is asked of the written part -/
def ExD.ok (file : Str) (K : PySem.W.Frag) (d : ExD) : Bool :=
  PySem.W.excInitIn K (He.ga K d.x) d.bm d.newId && (PySem.W.excOver K (He.ga K d.x) d.bm && (PySem.W.hasDictIn K (He.ga K d.x) && (decide (PySem.W.findIn K (.ref (He.ga K d.x)) d.f = some none) &&
  (decide (PySem.W.findIn K (.ref (He.ga K d.x)) "__setattr__" = some (some (.builtin "object.__setattr__"))) && (decide (PySem.W.mroIn K (He.ga K d.x) (.ref (He.ga K d.x)) = some true) &&
  (decide (PySem.W.ks_superIn K (He.ga K d.x) (He.ga K d.x) "__init__" = some (some (.builtin d.i))) && (decide (PySem.W.subIn K (.ref (He.ga K d.x)) (.type d.B) = some true) && (decide (PySem.W.subIn K (.ref (He.ga K d.x)) (.type "BaseException") = some true) &&
  (decide (PySem.W.typeIn K (.ref (He.ga K d.x)) = some (.type "type")) && (PySem.W.keepIn K (.ref (He.ga K d.x)) && (decide (PySem.W.nsIn K cStatics "thirdparty.any" = some none) &&
  (decide (PySem.W.findIn K (.ref (He.ga K d.x)) "__init__" = some (some (.ref (He.ma K (He.ga K d.x) "__init__")))) && (PySem.W.isFn K (.ref (He.ma K (He.ga K d.x) "__init__")) && (match K.lookup (He.ma K (He.ga K d.x) "__init__") with
    | some ⟨_, _, .func fd, _⟩ => (match fd.defaults with
      | .none => true
      | _ => false) && (PySem.W.codeIn K fd.code d.qual && ((match fd.closure with
      | [(_, cc)] => (match K.lookup cc with
        | some ⟨_, _, .cell (some (.ref D)), _⟩ => decide (D = He.ga K d.x)
        | _ => false)
      | _ => false) && (match fd.code with
      | .ref cda => (match K.lookup cda with
        | some ⟨_, _, .fields vs, _⟩ => (match (vs[2]? : Option Value) with
          | some (.str fl _) => decide (fl = file)
          | _ => false)
        | _ => false)
      | _ => false)))
    | _ => false))))))))))))))
theorem exD_ok {P : Program} {K : PySem.W.Frag} {d : ExD} (e : initW K d.x = d.val) (h : d.ok P.main.file K = true) (Sh : InitShape d.f d.params d.body d.scope) : ExI P K (He.ga K d.x) d.B d.newId d.i d.bm d.f := by
  unfold ExD.ok at h
  simp only [Bool.and_eq_true, decide_eq_true_eq] at h
  obtain ⟨h1, h2, h3, h4, h5, h6, h7, h8, h9, h10, h11, h12, h13, h14, h15⟩ := h
  refine ⟨h1, h2, h3, h4, h5, h6, h7, h8, h9, h10, h11, h12, ?_⟩
  unfold initW at e
  cases q : K.lookup (He.ma K (He.ga K d.x) "__init__") with
  | none => rw [q] at h15; cases h15
  | some o =>
    obtain ⟨oc, od, dt, osl⟩ := o
    rw [q] at h15 e
    cases dt with
    | func fd =>
      obtain ⟨n1, n2, n3, n4, n5, n6, n7, n8, n9, n10, n11, n12, n13, n14, n15⟩ := fd
      simp only [ExD.val, Option.some.injEq, Prod.mk.injEq] at e
      obtain ⟨e1, e2, e3, e4, e5, e6, e7, e8⟩ := e
      subst e1 e2 e3 e4 e5 e6 e8
      simp only [Bool.and_eq_true] at h15
      obtain ⟨k0, k1, k2, k3⟩ := h15
      have e8' : n8 = .none := by
        cases n8 with
        | none => rfl
        | _ => cases k0
      subst e8'
      obtain ⟨cn, cc, rfl⟩ : ∃ cn cc, n7 = [(cn, cc)] := by
        match n7, e7 with
        | [(a, b)], _ => exact ⟨a, b, rfl⟩
      have ecn : cn = "__class__" := by simpa using e7
      subst ecn
      simp only at k2 k3
      cases q2 : K.lookup cc with
      | none => rw [q2] at k2; cases k2
      | some oc2 =>
        obtain ⟨c1, c2, c3, c4⟩ := oc2
        rw [q2] at k2
        cases c3 with
        | cell v =>
          cases v with
          | none => cases k2
          | some v =>
            cases v with
            | ref D =>
              have eD : D = He.ga K d.x := of_decide_eq_true k2
              subst eD
              cases n13 with
              | ref cda =>
                simp only at k3
                cases q3 : K.lookup cda with
                | none => rw [q3] at k3; cases k3
                | some o3 =>
                  obtain ⟨d1, d2, d3, d4⟩ := o3
                  rw [q3] at k3
                  cases d3 with
                  | fields vs =>
                    simp only at k3
                    cases q4 : vs[2]? with
                    | none => rw [q4] at k3; cases k3
                    | some v4 =>
                      rw [q4] at k3
                      cases v4 with
                      | str fl tf =>
                        have ef : fl = P.main.file := of_decide_eq_true k3
                        subst ef
                        exact ⟨_, cda, cc, _, _, _, _, _, n9, n10, n11, n14, oc, n12, od, osl, vs, _, tf, d1, c1, d2, c2, d4, c4, h13, h14, q, k1, q3, q4, by simp, q2, Sh⟩
                      | _ => cases k3
                  | _ => cases k3
              | _ => cases k3
            | _ => cases k2
        | _ => cases k2
    | _ => cases h15
/-- classes whose exceptions are asked for fields, for their class: each with the classes above it -/
def askB (K : PySem.W.Frag) (fs : List Str) (tab : List (Str × List Str)) (ds : List Str) : Bool :=
  tab.all fun p => exqB K (He.ga K p.1) && ((fs.all fun f => decide (PySem.W.findIn K (.ref (He.ga K p.1)) f = some none)) && ds.all fun d => decide (PySem.W.exmOne K (.ref (He.ga K p.1)) (.ref (He.ga K d)) = some (p.2.contains d)) && (decide (PySem.W.kitOne K (.ref (He.ga K p.1)) (.ref (He.ga K d)) = some (p.2.contains d))))
def subOf (tab : List (Str × List Str)) (d c : Str) : Option Bool := (tab.lookup c).map fun l => l.contains d
theorem ask_ok {K : PySem.W.Frag} {fs : List Str} {tab : List (Str × List Str)} {ds : List Str} (h : askB K fs tab ds = true) {c : Str} {l : List Str} (hc : (c, l) ∈ tab) : ExQ K (He.ga K c) ∧ (∀ f ∈ fs, PySem.W.findIn K (.ref (He.ga K c)) f = some none) ∧
    ∀ d ∈ ds, PySem.W.exmOne K (.ref (He.ga K c)) (.ref (He.ga K d)) = some (l.contains d) ∧ PySem.W.kitOne K (.ref (He.ga K c)) (.ref (He.ga K d)) = some (l.contains d) := by
  have q := List.all_eq_true.mp h _ hc
  simp only [Bool.and_eq_true, List.all_eq_true, decide_eq_true_eq] at q
  obtain ⟨q1, q2, q3⟩ := q
  exact ⟨exqB_ok q1, q2, q3⟩
theorem mem_of_lookup {α : Type} {c : Str} {l : α} : ∀ {tab : List (Str × α)}, tab.lookup c = some l → (c, l) ∈ tab
  | [], h => by cases h
  | (a, b) :: r, h => by
    rw [List.lookup_cons] at h
    cases q : (c == a) with
    | true =>
      rw [q] at h
      have e1 : b = l := Option.some.inj h
      have e2 : c = a := beq_iff_eq.mp q
      subst e1 e2
      exact .head _
    | false => rw [q] at h; exact .tail _ (mem_of_lookup h)
def clsFn (s : Stmt) : Stmt := match s with
  | .ClassDef _ _ _ (f :: _) _ _ _ _ _ _ _ => f
  | x => x
theorem init_eval (env : Env) (m : Str) (j : Nat) (p0 p1 p2 p3 p4 : Pos) (hl : (p2.endLine == p4.line) = true) : ∃ pl : Sem Bool, eval (.Call (.Attribute (.Call (.Name "super" p0) [] [] p1) "__init__" p2) [.Constant (.str m) j p3] [] p4) env = (do
      let ov ← attributeBase (.Call (.Name "super" p0) [] [] p1) "__init__" env (eval (.Call (.Name "super" p0) [] [] p1) env)
      standAt p2.atName
      let (f, first) ← holding [ov] (getMethod ov "__init__" pl)
      callWith p4 f first (backTo p4 (starEach [.Constant (.str m) j p3] env)) []) := by
  refine ⟨do return (← importBound (.Call (.Name "super" p0) [] [] p1) env).getD true, ?_⟩
  rw [eval.eq_def]
  simp only [keywordEach, backToKw, List.map_nil]
  refine congrArg _ (funext fun ov => ?_)
  refine congrArg _ (funext fun _ => ?_)
  have hpos : methodCallPos true (.Call (.Name "super" p0) [] [] p1) env p2 p4 = pure p4 := by unfold methodCallPos; simp [hl]
  have hform : methodCallForm ([Expr.Constant (Const.str m) j p3].length + ([] : List Keyword).length) (backTo p4 (starEach [Expr.Constant (Const.str m) j p3] env)) [] = true := by rfl
  unfold methodCall
  rw [hform, hpos]
  rfl
def initSB (f : Str) (ps : Arguments) (sc : Scope) : Bool := (match (ps.posonlyargs ++ ps.args).head? with
  | some ar => decide (ar.arg = ("self" : Str))
  | none => false) && (decide (sc.kind = .function) && (!sc.isCoroutine && (!sc.isGenerator && (decide (sc.names.lookup ("self" : Str) = some .local) && (decide (sc.names.lookup f = some .local) && (decide (sc.names.lookup ("super" : Str) = some .globalImplicit) &&
  (decide (sc.names.lookup ("__class__" : Str) = some .free) && (sc.names.all (fun x => !decide (x.2 = .cell)) && (!decide (f = ("self" : Str)) && !(f == ("__debug__" : Str)))))))))))
theorem initS_by {f : Str} {ps : Arguments} {body : List Stmt} {sc : Scope} {m : Str} {j : Nat} {p0 p1 p2 p3 p4 p5 q1 q2 q3 q4 : Pos}
    (hb : body = [.Expr (.Call (.Attribute (.Call (.Name "super" p0) [] [] p1) "__init__" p2) [.Constant (.str m) j p3] [] p4) p5, .Assign [.Attribute (.Name "self" q1) f q2] (.Name f q3) q4])
    (hl : (p2.endLine == p4.line) = true) (bind : ∀ (nm qual : Str) (cl : List (Str × Addr)) (kV doc pm : Value) (an : Option Addr) (cdv ct a u : Value), bindArgs (PySem.W.fnX nm qual ps body sc cl .none kV doc pm an cdv ct) ⟨[a, u], []⟩ = pure [(("self" : Str), a), (f, u)])
    (h : initSB f ps sc = true) (bindK : ∀ (nm qual : Str) (cl : List (Str × Addr)) (kV doc pm : Value) (an : Option Addr) (cdv ct a u : Value), bindArgs (PySem.W.fnX nm qual ps body sc cl .none kV doc pm an cdv ct) ⟨[a], [(f, u)]⟩ = pure [(("self" : Str), a), (f, u)] := by intros; rfl) : InitShape f ps body sc := by
  unfold initSB at h
  simp only [Bool.and_eq_true, decide_eq_true_eq, Bool.not_eq_true', decide_eq_false_iff_not, List.all_eq_true] at h
  obtain ⟨h1, h2, h3, h4, h5, h6, h7, h8, h9, h10, h11⟩ := h
  refine ⟨⟨m, j, p0, p1, p2, p3, p4, p5, q1, q2, q3, q4, hb, fun env => init_eval env m j p0 p1 p2 p3 p4 hl⟩, bind, ?_, h2, h3, h4, h5, h6, h7, h8, fun x hx => by simpa using h9 x hx, h10, h11, bindK⟩
  cases q : (ps.posonlyargs ++ ps.args).head? with
  | none => rw [q] at h1; cases h1
  | some ar => rw [q] at h1; exact ⟨ar, rfl, of_decide_eq_true h1⟩
/-- where the classes lie -/
def GX (K : PySem.W.Frag) (mg : Str → Option Value) (tab : List (Str × List Str)) : Prop := ∀ p ∈ tab, mg p.1 = some (.ref (He.ga K p.1))
theorem gx_nil {K : PySem.W.Frag} {mg : Str → Option Value} : GX K mg [] := fun p hp => by cases hp
theorem gx_cons {K : PySem.W.Frag} {mg : Str → Option Value} {c : Str} {l : List Str} {tab : List (Str × List Str)} (h : mg c = some (.ref (He.ga K c))) (t : GX K mg tab) : GX K mg ((c, l) :: tab) := fun p hp => by
  rcases List.mem_cons.mp hp with rfl | hp
  · exact h
  · exact t p hp
structure Ask (K : PySem.W.Frag) (mg : Str → Option Value) (fs : List Str) (tab : List (Str × List Str)) (ds : List Str) : Prop where
  b : askB K fs tab ds = true
  g : GX K mg tab
def takers (tab : List (Str × List Str)) (ds : List Str) : List Str := (tab.filter fun p => ds.any fun d => p.2.contains d).map fun p => p.1
section
variable {K : PySem.W.Frag} {mg : Str → Option Value} {fs : List Str} {tab : List (Str × List Str)} {ds : List Str}
theorem Ask.fld (A : Ask K mg fs tab ds) {f : Str} (hf : f ∈ fs) : ∀ c ∈ tab.map (fun p => p.1), ∀ C : Addr, mg c = some (.ref C) → ExQ K C ∧ PySem.W.findIn K (.ref C) f = some none := fun c hc C hC => by
  obtain ⟨⟨c', l⟩, hp, rfl⟩ := List.mem_map.mp hc
  have e := (A.g _ hp).symm.trans hC
  cases e
  obtain ⟨q1, q2, _⟩ := ask_ok A.b hp
  exact ⟨q1, q2 f hf⟩
theorem Ask.sub (A : Ask K mg fs tab ds) {d : Str} (hd : d ∈ ds) : ∀ c b, subOf tab d c = some b → ∀ C : Addr, mg c = some (.ref C) → ExQ K C ∧ PySem.W.kitOne K (.ref C) (.ref (He.ga K d)) = some b := fun c b h C hC => by
  unfold subOf at h
  cases q : tab.lookup c with
  | none => rw [q] at h; cases h
  | some l =>
    rw [q] at h
    cases h
    have hp := mem_of_lookup q
    have e := (A.g _ hp).symm.trans hC
    cases e
    obtain ⟨q1, _, q3⟩ := ask_ok A.b hp
    exact ⟨q1, (q3 d hd).2⟩
theorem Ask.two (A : Ask K mg fs tab ds) {a b : Str} (ha : a ∈ ds) (hb : b ∈ ds) : ∀ c ∈ takers tab [a, b], ∀ C : Addr, mg c = some (.ref C) → PySem.W.exmAny K (.ref C) [.ref (He.ga K a), .ref (He.ga K b)] = some true := fun c hc C hC => by
  unfold takers at hc
  obtain ⟨⟨c', l⟩, hp, rfl⟩ := List.mem_map.mp hc
  obtain ⟨hp, hm⟩ := List.mem_filter.mp hp
  have e := (A.g _ hp).symm.trans hC
  cases e
  obtain ⟨_, _, q3⟩ := ask_ok A.b hp
  simp only [List.any_cons, List.any_nil, Bool.or_false] at hm
  simp only [PySem.W.exmAny, (q3 a ha).1, (q3 b hb).1, Bool.or_false, hm]
theorem Ask.one (A : Ask K mg fs tab ds) {a : Str} (ha : a ∈ ds) : ∀ c ∈ takers tab [a], ∀ C : Addr, mg c = some (.ref C) → PySem.W.exmOne K (.ref C) (.ref (He.ga K a)) = some true := fun c hc C hC => by
  unfold takers at hc
  obtain ⟨⟨c', l⟩, hp, rfl⟩ := List.mem_map.mp hc
  obtain ⟨hp, hm⟩ := List.mem_filter.mp hp
  have e := (A.g _ hp).symm.trans hC
  cases e
  obtain ⟨_, _, q3⟩ := ask_ok A.b hp
  simp only [List.any_cons, List.any_nil, Bool.or_false] at hm
  rw [(q3 a ha).1, hm]
end
end MX
namespace He
open PySem PySem.Spec PyProof.Rows L2
abbrev AlMX : Type := AlM × List MX.InitW
def obsMXG (n : Nat) (fa : List Fa) (fn : List DefD) (b : PySem.W.Frag → Bool) (ex : List MX.ExD) (g : Addr → Option Obj) : AlMX := (obsMG n fa fn b g, ex.map fun d => MX.initW (KM n g) d.x)
structure SaysMX (fa : List Fa) (fn : List DefD) (b : PySem.W.Frag → Bool) (ex : List MX.ExD) (h : Heap) (K : PySem.W.Frag) : Prop where
  m : SaysM fa fn b h K
  e : ex.map (fun d => MX.initW K d.x) = ex.map MX.ExD.val
def hookMX (n : Nat) (fa : List Fa) (fn : List DefD) (b : PySem.W.Frag → Bool) (ex : List MX.ExD) : PySem.W.Hook where
  α := AlMX
  obs := fun s => obsMXG n fa fn b ex s.heap.get?
  val := fun _ => ((valD fn, true), ex.map MX.ExD.val)
  says := fun _ h => ∃ K : PySem.W.Frag, K.In h ∧ SaysMX fa fn b ex h K
  of := fun _ _ e => ⟨_, frT_in, saysM_of (congrArg (fun z : AlMX => z.1) e), congrArg (fun z : AlMX => z.2) e⟩
  keeps := fun _ _ _ ⟨K, hK, c⟩ k => ⟨K, PySem.W.Frag.In.keeps hK k, ⟨c.m.d, c.m.b, fun p hp => k _ _ (c.m.emp p hp), c.m.out, c.m.nd⟩, c.e⟩
theorem obsMXG_eq {n : Nat} {fa : List Fa} {fn : List DefD} {b : PySem.W.Frag → Bool} {ex : List MX.ExD} {g : Addr → Option Obj} {s : Shared} (h : ∀ a, g a = s.heap.get? a) : obsMXG n fa fn b ex g = (hookMX n fa fn b ex).obs s := by
  have e : g = s.heap.get? := funext h
  rw [e] <;> rfl
theorem SaysMX.init {fa : List Fa} {fn : List DefD} {b : PySem.W.Frag → Bool} {ex : List MX.ExD} {h : Heap} {K : PySem.W.Frag} (c : SaysMX fa fn b ex h K) (i : Nat) {d : MX.ExD} (hd : ex[i]? = some d := by rfl) : MX.initW K d.x = d.val := by
  have q : (ex.map fun d => MX.initW K d.x)[i]? = (ex.map MX.ExD.val)[i]? := by rw [c.e]
  rw [List.getElem?_map, List.getElem?_map, hd] at q
  exact Option.some.inj q
end He
end
section
namespace MX
open PySem PySem.Spec PyProof.Rows L2
section
variable {X : Cx}
end
end MX
end
section
namespace MX
open PySem PySem.Spec PyProof.Rows L2
section
variable {X : Cx} {c a b : Expr} {pos : Pos}
end
end MX
end
section
set_option maxHeartbeats 2000000
namespace MX
open PySem PySem.Spec PyProof.Rows L2
/-- what the scope of such a lambda holds: y, of the names around N none, and what stands around -/
structure LamD (N : List Str) (sc scope : Scope) (y : Str) : Prop where
  kind : scope.kind = .function
  co : scope.isCoroutine = false
  gen : scope.isGenerator = false
  noc : ∀ z ∈ scope.names, z.2 ≠ .cell
  own : ∀ z ∈ scope.names, z.2 = .local → z.1 = y
  yl : scope.names.lookup y = some .local
  yN : y ∉ N
  free : ∀ z ∈ scope.names, z.2 = .free → sc.names.lookup z.1 = some .cell ∨ sc.names.lookup z.1 = some .free
section
variable {X : Cx} {pins : List (Addr × Obj)} {σ : L2.St} {H HZ : Hp} {s s1 : Shared}
end
section
variable {X : Cx}
end
end MX
end
section
set_option maxHeartbeats 2000000
namespace MX
open PySem PySem.Spec PyProof.Rows L2
theorem RepVs.back {K : PySem.W.Frag} {g : Gh} : ∀ {xs : List PV} {vs : List V}, RepVs K g xs vs → RepVs K g xs.reverse vs.reverse
  | [], vs, h => by cases (show vs = [] from h); exact .nil
  | x :: xs, vs, h => by
    obtain ⟨v, t, e, h1, h2⟩ := h
    subst e
    rw [List.reverse_cons, List.reverse_cons]
    exact h2.back.append (.cons h1 .nil)
section
variable {X : Cx} {e : Expr} {te : Sx} {k : Nat} {p1 p2 p3 pos : Pos}
end
end MX
end
section
namespace MX
open PySem PySem.Spec PyProof.Rows L2
section
variable {X : Cx} {a : Expr} {ta : Sx} {p p2 pos pos2 : Pos}
end
end MX
end
section
namespace MX
open PySem PySem.Spec PyProof.Rows L2
section
variable {X : Cx} {pos : Pos}
def sxDicE : Sx := fun _ S => .ok (.dic [] []) S
/-- behind it a thing stays as it is for ever -/
theorem pe_lockNow {e : Expr} {t : TE} (h : PE X e t) : PE X e (fun σ H Q => t σ H fun v H1 => ∃ d u, H1 d = some u ∧ Mut (some u) ∧ ∀ od, Q v (upd H1 d (.frz od u))) :=
  ⟨fun pins s σ H Q I hw => thn (h.run pins s σ H _ I hw) fun w s1 ⟨x, H1, I1, rx, d, u, hd, mu, q⟩ => by
    obtain ⟨od, I2⟩ := I1.lock hd mu
    exact ⟨x, _, I2, rx, q od⟩⟩
theorem se_dicE : PE X (.Dict [] [] pos) (rdE X sxDicE) := (pe_lockNow (pe_dnewK (X := X) (pos := pos))).imp fun σ H Q ⟨g, sp, S, hS, hE, p⟩ => by
  intro D hD
  refine ⟨D, _, upd_same, trivial, fun od => ?_⟩
  rw [upd_upd]
  obtain ⟨q1, l⟩ := hS.froze (o := .frz od (.dK [])) hD
  exact p (.ref D) _ _ l q1 ⟨D, [], rfl, ⟨od, upd_same⟩, .nil⟩
def sxDicF (ts : List (Sx × Sx)) : Sx := fun sp S => (saPairs ts sp S).pure fun ps S1 => match keysP ps with
  | some kvs => if kvs.length ≤ 15 then .ok (.dic ((mergeP [] kvs).map (·.1)) ((mergeP [] kvs).map (·.2))) S1 else .stuck
  | none => .stuck
theorem repKV_zip {K : PySem.W.Frag} {g : Gh} : ∀ {kvs : List (Key × PV)} {rs : List (Key × V)}, RepKV K g kvs rs → rs = (kvs.map (·.1)).zip (rs.map (·.2)) ∧ RepVs K g (kvs.map (·.2)) (rs.map (·.2))
  | _, _, .nil => ⟨rfl, .nil⟩
  | _, _, .cons (a := p) (b := q) h t => by
    obtain ⟨e, r⟩ := repKV_zip t
    obtain ⟨h1, h2⟩ := h
    refine ⟨?_, .cons h2 r⟩
    rw [List.map_cons, List.map_cons, List.zip_cons_cons, ← e, h1]
theorem se_dicF {keys : List (Option Expr)} {values : List Expr} {ts : List (Sx × Sx)} (h : PPs X pos keys values (ts.map fun t => (rdE X t.1, rdE X t.2))) (hall : keys.all (·.isSome) = true := by rfl) (hl : keys.length = values.length := by rfl) (h0 : keys ≠ [] := by exact fun z => by cases z)
    (h15 : keys.length ≤ 15 := by decide) : PE X (.Dict keys values pos) (rdE X (sxDicF ts)) := (pe_lockNow (pe_disp h hall hl h0 h15)).imp fun σ H Q ⟨g, sp, S, hS, hE, p⟩ => by
  intro D hD
  have D0 : g.rs D = none := by
    cases e : g.rs D with
    | none => rfl
    | some u => rw [(hS.rs D u e).1] at hD; cases hD
  have h1 := hS.reserve (o := .dK []) hD
  have lv : g.lv { g with rs := upd g.rs D (.dK []) } := ⟨fun _ _ e => e, fun _ _ e => e⟩
  refine rdPairs ts h1 (hE.monoV lv) ?_
  unfold sxDicF at p
  cases hps : saPairs ts sp S with
  | stuck => rw [hps] at p; exact p.elim
  | exc x S1 => rw [hps] at p; exact p.elim
  | ok ps S1 =>
    rw [hps] at p
    intro ws H2 g2 l2 q2 r2
    have gD : g2.rs D = some (.dK []) := by rw [l2.rs]; exact upd_same
    refine ⟨(q2.rs D _ gD).1, ?_⟩
    have p : Post X g (RepV X.K) (ExcT X g sp) (match keysP ps with
      | some kvs => if kvs.length ≤ 15 then Out.ok (PV.dic ((mergeP [] kvs).map (·.1)) ((mergeP [] kvs).map (·.2))) S1 else .stuck
      | none => .stuck) Q := p
    cases hk : keysP ps with
    | none => rw [hk] at p; exact p.elim
    | some kvs =>
      rw [hk] at p
      simp only at p
      obtain ⟨rs, e, r⟩ := keysP_rep r2 hk
      split at p
      · rename_i h15'
        refine ⟨rs, e, by rw [← r.length]; exact h15', D, _, upd_same, trivial, fun od => ?_⟩
        rw [upd_upd]
        have q3 := q2.rekeep (o' := .frz od (.dK (mergeK [] rs))) gD ⟨fun _ z => (by cases z), fun _ z => (by cases z)⟩
        have lv3 : g2.lv { g2 with rs := upd g2.rs D (.frz od (.dK (mergeK [] rs))) } := ⟨fun _ _ e => e, fun _ _ e => e⟩
        have gD3 : ({ g2 with rs := upd g2.rs D (.frz od (.dK (mergeK [] rs))) } : Gh).rs D = some (.frz od (.dK (mergeK [] rs))) := upd_same
        obtain ⟨q4, l4⟩ := q3.letGo (r0 := g.rs) gD3 (fun a u e => by
          have ha : a ≠ D := fun z => by rw [z, D0] at e; cases e
          refine ⟨ha, ?_⟩
          show upd g2.rs D _ a = _
          rw [upd_ne ha, l2.rs]
          show upd g.rs D _ a = _
          rw [upd_ne ha]; exact e)
        have lall := lv.trans (l2.lv.trans (lv3.trans l4))
        have rr : RepKV X.K g2 (mergeP [] kvs) (mergeK [] rs) := merge_rep r .nil
        obtain ⟨ez, rz⟩ := repKV_zip rr
        refine p (.ref D) _ _ ⟨fun a o e => lall.fz a o e, fun j a e => lall.m j a e, rfl, ?_⟩ q4 ⟨D, (mergeK [] rs).map (·.2), rfl, ⟨od, ?_⟩, RepVs.monoV (lv3.trans l4) _ _ rz⟩
        · exact l2.tb
        · show upd g2.fz D _ D = _
          rw [upd_same, ← ez]
      · exact p.elim
end
end MX
end
section
namespace MX
open PySem PySem.Spec PyProof.Rows L2
end MX
end
section
namespace MX
open PySem PySem.Spec PyProof.Rows L2
end MX
end
section
namespace L2
open PySem PySem.Spec PyProof.Rows
section
variable {P : Program} {w : World} {K : PySem.W.Frag} {elts : List Expr} {kk : Nat} {tpos : Pos} {a b z TI TO i1 i2 : Addr}
end
section
variable {X : Cx} {e e2 : Expr} {ta : TA} {p pos tpos : Pos} {elts : List Expr} {kk : Nat}
end
end L2
namespace MX
open PySem PySem.Spec PyProof.Rows L2
end MX
end
section
namespace MX
open PySem PySem.Spec PyProof.Rows L2
section
variable {X : Cx} {a : Expr} {ta : Sx} {p p2 q pos : Pos}
end
end MX
end
section
namespace MX
open PySem PySem.Spec PyProof.Rows L2
section
variable {X : Cx}
end
end MX
end
section
namespace MX
open PySem PySem.Spec PyProof.Rows L2
/-- a small range of a step -/
def RgS (i j c : Int) : Prop := RngOk i ∧ RngOk j ∧ 1 ≤ c ∧ c ≤ 1000
instance (i j c : Int) : Decidable (RgS i j c) := by unfold RgS; infer_instance
def rgN (i j c : Int) : Nat := if i < j then ((j - i - 1) / c + 1).toNat else 0
theorem RngOk.le {j : Int} (q : RngOk j) : j.natAbs ≤ 1000000000000 := Nat.le_of_ble_eq_true q
theorem RgS.h {i j c : Int} (q : RgS i j c) : RgC i j c (rgN i j c) := by
  obtain ⟨h1, h2, h3, h4⟩ := q
  have h1 := h1.le
  have h2 := h2.le
  have hc : c > 0 := by omega
  have hd : 0 ≤ (j - i - 1) / c + 1 ∨ ¬ i < j := by
    by_cases h : i < j
    · left
      have := Int.ediv_nonneg (a := j - i - 1) (b := c) (by omega) (by omega)
      omega
    · exact .inr h
  have hs : Builtin.Range.rangeSize i j c = (rgN i j c : Nat) := by
    unfold Builtin.Range.rangeSize rgN
    rw [if_pos hc]
    by_cases h : i < j
    · rw [if_pos h, if_pos h]
      rcases hd with hd | hd
      · omega
      · exact absurd h hd
    · rw [if_neg h, if_neg h]; rfl
  have hn : (rgN i j c : Int) ≤ 2000000000001 := by
    rw [← hs]
    unfold Builtin.Range.rangeSize
    rw [if_pos hc]
    by_cases h : i < j
    · rw [if_pos h]
      have := Int.ediv_le_self (a := j - i - 1) c (by omega)
      omega
    · rw [if_neg h]; omega
  refine ⟨by omega, by omega, ?_, hs⟩
  unfold Builtin.Range.small
  rw [hs, if_pos hc]
  simp only [Builtin.Range.rangeFitsLong, Bool.and_eq_true, Bool.or_eq_true, decide_eq_true_eq, beq_iff_eq]
  omega
section
variable {X : Cx} {tg a b : Expr} {ta tb : Sx} {c : Int} {k : Nat} {p p3 pos : Pos}
end
end MX
end
section
set_option maxHeartbeats 2000000
namespace MX
open PySem PySem.Spec PyProof.Rows L2
/-- how such an __init__ is written -/
structure InitShape2 (f f2 : Str) (ps : Arguments) (body : List Stmt) (scope : Scope) : Prop where
  shape : ∃ (m : Str) (j : Nat) (p0 p1 p2 p3 p4 p5 q1 q2 q3 q4 r1 r2 r3 r4 : Pos), body = [.Expr (.Call (.Attribute (.Call (.Name "super" p0) [] [] p1) "__init__" p2) [.Constant (.str m) j p3] [] p4) p5,
    .Assign [.Attribute (.Name "self" q1) f q2] (.Name f q3) q4, .Assign [.Attribute (.Name "self" r1) f2 r2] (.Name f2 r3) r4] ∧ (∀ env : Env, ∃ pl : Sem Bool, eval (.Call (.Attribute (.Call (.Name "super" p0) [] [] p1) "__init__" p2) [.Constant (.str m) j p3] [] p4) env = (do
      let ov ← attributeBase (.Call (.Name "super" p0) [] [] p1) "__init__" env (eval (.Call (.Name "super" p0) [] [] p1) env)
      standAt p2.atName
      let (f, first) ← holding [ov] (getMethod ov "__init__" pl)
      callWith p4 f first (backTo p4 (starEach [.Constant (.str m) j p3] env)) []))
  bind : ∀ (nm qual : Str) (cl : List (Str × Addr)) (kV doc pm : Value) (an : Option Addr) (cdv ct a u u2 : Value), bindArgs (PySem.W.fnX nm qual ps body scope cl .none kV doc pm an cdv ct) ⟨[a, u, u2], []⟩ = pure [(("self" : Str), a), (f, u), (f2, u2)]
  first : ∃ ar, (ps.posonlyargs ++ ps.args).head? = some ar ∧ ar.arg = ("self" : Str)
  kind : scope.kind = .function
  co : scope.isCoroutine = false
  gen : scope.isGenerator = false
  self : scope.names.lookup ("self" : Str) = some .local
  par : scope.names.lookup f = some .local
  sup : scope.names.lookup ("super" : Str) = some .globalImplicit
  cls : scope.names.lookup ("__class__" : Str) = some .free
  noc : ∀ x ∈ scope.names, x.2 ≠ .cell
  par2 : scope.names.lookup f2 = some .local
  ne : f ≠ "self"
  ne2 : f2 ≠ "self"
  ne3 : f ≠ f2
  nd2 : (f2 == ("__debug__" : Str)) = false
  nd : (f == ("__debug__" : Str)) = false
/-- what the written part says of such a class -/
structure ExI2 (P : Program) (K : PySem.W.Frag) (C : Addr) (B newId i : String) (bmB : List Value) (f f2 : Str) : Prop where
  q : PySem.W.excInitIn K C bmB newId = true
  ov : PySem.W.excOver K C bmB = true
  hd : PySem.W.hasDictIn K C = true
  fno : PySem.W.findIn K (.ref C) f = some none
  fno2 : PySem.W.findIn K (.ref C) f2 = some none
  sa : PySem.W.findIn K (.ref C) "__setattr__" = some (some (.builtin "object.__setattr__"))
  mro : PySem.W.mroIn K C (.ref C) = some true
  sup : PySem.W.ks_superIn K C C "__init__" = some (some (.builtin i))
  subB : PySem.W.subIn K (.ref C) (.type B) = some true
  exC : PySem.W.subIn K (.ref C) (.type "BaseException") = some true
  tyC : PySem.W.typeIn K (.ref C) = some (.type "type")
  kC : PySem.W.keepIn K (.ref C) = true
  op : PySem.W.nsIn K PySem.cStatics "thirdparty.any" = some none
  ini : ∃ (fI cda cc : Addr) (nm qual : Str) (ps : Arguments) (body : List Stmt) (scope : Scope) (kV doc pm ct oc : Value) (an od : Option Addr) (osl : Array (Option Value)) (vs : Array Value) (file : Str) (tf : Tok) (ccl cl : Value) (cdd cld : Option Addr) (ccs csl : Array (Option Value)),
    PySem.W.findIn K (.ref C) "__init__" = some (some (.ref fI)) ∧ PySem.W.isFn K (.ref fI) = true ∧ K.lookup fI = some ⟨oc, od, .func (PySem.W.fnX nm qual ps body scope [("__class__", cc)] .none kV doc pm an (.ref cda) ct), osl⟩ ∧ PySem.W.codeIn K (.ref cda) qual = true ∧
    K.lookup cda = some ⟨ccl, cdd, .fields vs, ccs⟩ ∧ vs[2]? = some (.str file tf) ∧ ((P.main.file : Str) == file) = true ∧ K.lookup cc = some ⟨cl, cld, .cell (some (.ref C)), csl⟩ ∧ InitShape2 f f2 ps body scope
section
variable {X : Cx} {pins : List (Addr × Obj)} {σ : L2.St} {H : Hp} {s : Shared} {C : Addr} {B newId i : String} {bmB : List Value} {f f2 : Str} {y y2 : V} {u u2 : Value} {Q : XK}
end
section
variable {X : Cx} {e e2 : Expr} {te te2 : Sx} {x f f2 : Str} {p pos pos' : Pos} {C : Addr} {B newId i : String} {bmB : List Value}
end
end MX
end
section
set_option maxHeartbeats 2000000
namespace MX
open PySem PySem.Spec PyProof.Rows L2
end MX
end
section
namespace MX
open PySem PySem.Spec PyProof.Rows L2
section
variable {X : Cx}
end
end MX
end
section
namespace MX
open PySem PySem.Spec PyProof.Rows L2
section
variable {K : PySem.W.Frag} {mg : MP} {g g' : Gh} {S : Sto} {H : Hp}
end
section
variable {X : Cx} {st : Stmt} {t : Ss} {tg e : Expr} {te to ti : Sx} {o i : Expr} {pos : Pos}
def keyPV : Key → PV
  | .inl i => .int i
  | .inr x => .str x
theorem keyPV_rep {K : PySem.W.Frag} {g : Gh} (k : Key) : RepV K g (keyPV k) (kV k) := by
  cases k <;> rfl
theorem JOk.keys {g : Gh} {d : Addr} {od : Obj} {kvs : List (Key × V)} (hd : g.fz d = some (.frz od (.dK kvs))) : JOk X g (.items ((kvs.map (·.1)).map keyPV)) (Itk d od kvs) := fun i H g' S ys l hS e => by
  cases e
  have hH := hS.fz _ _ (l.fz _ _ hd)
  refine ⟨fun hi => ⟨hH, by simpa using hi⟩, fun x hx => ?_⟩
  rw [List.getElem?_map, List.getElem?_map] at hx
  cases q : kvs[i]? with
  | none => rw [q] at hx; cases hx
  | some kv =>
    rw [q] at hx; cases hx
    refine ⟨⟨hH, (List.getElem?_eq_some_iff.mp q).1⟩, fun u H' ⟨e2, k, v, e3, e4⟩ => ?_⟩
    rw [q] at e3; cases e3
    subst e2 e4
    exact ⟨g', .refl _, hS, keyPV_rep k⟩
end
end MX
end
section
namespace MX
open PySem PySem.Spec PyProof.Rows L2
end MX
end
section
namespace MX
open PySem PySem.Spec PyProof.Rows L2
section
variable {X : Cx}
/-- what makes an exception gives it -/
theorem pe_mk {e : Expr} {t : L2.St → Hp → XK → Prop} (mk : L2.PMk X e t) : PE X e (fun σ H Q => t σ H fun cls d H' => ∀ a, H' a = none → ∃ C dx, cls = .ref C ∧ d = some dx ∧ Q (.ref a) (upd H' a (ExV C dx a))) := ⟨fun pins s σ H Q I h =>
  wpAny_mono (mk pins s σ H _ I h) (fun u s' ⟨a, oe, vs, sI, H', cls, d, eu, I1, k, n0, he, hz, hv, h1, hn, hos, hb, hr, q⟩ => by
    obtain ⟨C, dx, rfl, rfl, q2⟩ := q a hn
    subst eu
    have J := I1.laidN (t' := s'.toks) k n0 hn (exV_ok (C := C) (dx := dx) he hz.1 hz.2 hv)
    exact ⟨.ref a, _, ⟨J.ok, hos.trans J.os, hb, J.base, J.loc, J.cell, J.free, J.freeC, J.pin, J.hok, J.len⟩, rfl, q2⟩) fun _ _ x => x⟩
def sxMkX (c f : Str) (te : Sx) : Sx := fun sp S => (te sp S).bind fun v S1 => .ok (.ref S1.length) (S1 ++ [.exc c [(f, v)]])
def sxMk0 (c : Str) (te : Sx) : Sx := fun sp S => (te sp S).bind fun _ S1 => .ok (.ref S1.length) (S1 ++ [.exc c []])
end
section
variable {X : Cx} {e : Expr} {te : Sx} {x f : Str} {p pos kpos : Pos} {C : Addr} {B newId i : String} {bmB : List Value}
theorem mk_pos (FB : ExcBaseFacts B newId i bmB) (KF : PySem.W.KxsFacts B i) (SF : StoreFacts B bmB "object.__setattr__" "object") (T : ExI X.prog X.K C B newId i bmB f) (hr : Room 1 X.A) (hsu : X.mg "super" = none)
    (htop : (X.prog.main.scope.names.lookup ("super" : Str)).isSome = false) (hg : Gl X x) (hm : X.mg x = some (.ref C)) (ha : PE X e (rdE X te)) (hdb : (x == ("__debug__" : Str)) = false) (he : starEach [e] X.env = (false, eval e X.env) :: starEach [] X.env) (hpl : (backTo pos (starEach [] X.env)).any (·.1) = false) :
    L2.PMk X (.Call (.Name x p) [e] [] pos) (fun σ H Q => rdE X te σ H fun y H1 => ∀ d, H1 d = none → Q (.ref C) (some d) (upd H1 d (.xd [(f, y)]))) := fun pins s σ H Q I h => by
  refine wpAny_Call_Name_kw (ld_glob I hg hm ?_ hdb)
  refine PySem.W.callWith_K (h₀ := X.base) I.ok.mod.kin T.kC (thn ((pa_cons (t := tNil) ha pa_nil he).run pos pins s σ H (fun vs H1 => ∃ y, vs = [y] ∧ ∀ d, H1 d = none → Q (.ref C) (some d) (upd H1 d (.xd [(f, y)]))) I ?_) fun us s1 ⟨vs, H1, I1, r1, y, ev, q1⟩ => ⟨I1.kIn, ?_⟩) he hpl
  · exact h.mono fun y H1 q => ⟨y, rfl, q⟩
  · subst ev
    obtain ⟨u, eu, rx⟩ := vals1 r1
    subst eu
    exact exc_made I1 FB KF SF T hr hsu htop rx q1
theorem mk_kw (FB : ExcBaseFacts B newId i bmB) (KF : PySem.W.KxsFacts B i) (SF : StoreFacts B bmB "object.__setattr__" "object") (T : ExI X.prog X.K C B newId i bmB f) (hr : Room 1 X.A) (hsu : X.mg "super" = none)
    (htop : (X.prog.main.scope.names.lookup ("super" : Str)).isSome = false) (hg : Gl X x) (hm : X.mg x = some (.ref C)) (ha : PE X e (rdE X te)) (hdb : (x == ("__debug__" : Str)) = false)
    (hall : (backToKw pos (keywordEach [⟨some f, e, kpos⟩] X.env)).all (·.1.isSome) = true) (hks : (backToKw pos (keywordEach [⟨some f, e, kpos⟩] X.env)).filterMap (·.1) = [f])
    (hpl : ((backTo pos (starEach [] X.env)).any (·.1) || (backToKw pos (keywordEach [⟨some f, e, kpos⟩] X.env)).any (·.1.isNone)) = false) :
    L2.PMk X (.Call (.Name x p) [] [⟨some f, e, kpos⟩] pos) (fun σ H Q => rdE X te σ H fun y H1 => ∀ d, H1 d = none → Q (.ref C) (some d) (upd H1 d (.xd [(f, y)]))) := fun pins s σ H Q I h => by
  refine wpAny_Call_Name_kw (ld_glob I hg hm ?_ hdb)
  refine PySem.W.callWith_KW0 (h₀ := X.base) I.ok.mod.kin T.kC hall (thn ((pk_cons (t := tNil) ha pk_nil).run pos pins s σ H (fun vs H1 => ∃ y, vs = [y] ∧ ∀ d, H1 d = none → Q (.ref C) (some d) (upd H1 d (.xd [(f, y)]))) I ?_) fun us s1 ⟨vs, H1, I1, r1, y, ev, q1⟩ => ⟨I1.kIn, ?_⟩) hpl
  · exact h.mono fun y H1 q => ⟨y, rfl, q⟩
  · subst ev
    obtain ⟨u, eu, rx⟩ := vals1 r1
    subst eu
    rw [hks]
    exact exc_madeG (.inr ⟨rfl, rfl⟩) I1 FB KF SF T hr hsu htop rx q1
theorem se_ofmk {ex : Expr} (hm : X.mg x = some (.ref C)) (mk : L2.PMk X ex (fun σ H Q => rdE X te σ H fun y H1 => ∀ d, H1 d = none → Q (.ref C) (some d) (upd H1 d (.xd [(f, y)])))) : PE X ex (rdE X (sxMkX x f te)) := (pe_mk mk).imp fun σ H Q ⟨g, sp, S, hS, hE, pp⟩ => by
  refine (rdE.fst (ta := te) hS hE (show Post X g (RepV X.K) (ExcT X g sp) ((te sp S).bind fun v S1 => .ok (.ref S1.length) (S1 ++ [.exc x [(f, v)]])) Q from pp)).mono fun y H1 ⟨v, g1, S1, l1, q1, e1, r1, p1⟩ => ?_
  intro d hd a ha
  obtain ⟨q2, l2⟩ := q1.froze (o := .xd [(f, y)]) hd
  obtain ⟨q3, l3⟩ := q2.push (so := .exc x [(f, v)]) (o := ExV C d a) ha ⟨C, hm, .inl ⟨d, [(f, y)], upd_same, upd_same, .cons ⟨rfl, RepV.mono l2 _ _ r1⟩ .nil⟩⟩
  refine ⟨C, d, rfl, rfl, p1 (.ref a) _ _ (l2.trans l3) q3 ⟨a, rfl, ?_⟩⟩
  have hl : g1.m.length = S1.length := q1.len
  show (g1.m ++ [a])[S1.length]? = some a
  rw [← hl]; simp
theorem se_mkx (FB : ExcBaseFacts B newId i bmB) (KF : PySem.W.KxsFacts B i) (SF : StoreFacts B bmB "object.__setattr__" "object") (T : ExI X.prog X.K C B newId i bmB f) (hr : Room 1 X.A) (hsu : X.mg "super" = none)
    (htop : (X.prog.main.scope.names.lookup ("super" : Str)).isSome = false) (hg : Gl X x) (hm : X.mg x = some (.ref C)) (ha : PE X e (rdE X te)) (hdb : (x == ("__debug__" : Str)) = false := by decide) (he : starEach [e] X.env = (false, eval e X.env) :: starEach [] X.env := by rfl) (hpl : (backTo pos (starEach [] X.env)).any (·.1) = false := by rfl) :
    PE X (.Call (.Name x p) [e] [] pos) (rdE X (sxMkX x f te)) := se_ofmk hm (mk_pos FB KF SF T hr hsu htop hg hm ha hdb he hpl)
theorem se_mkk (FB : ExcBaseFacts B newId i bmB) (KF : PySem.W.KxsFacts B i) (SF : StoreFacts B bmB "object.__setattr__" "object") (T : ExI X.prog X.K C B newId i bmB f) (hr : Room 1 X.A) (hsu : X.mg "super" = none)
    (htop : (X.prog.main.scope.names.lookup ("super" : Str)).isSome = false) (hg : Gl X x) (hm : X.mg x = some (.ref C)) (ha : PE X e (rdE X te)) (hdb : (x == ("__debug__" : Str)) = false := by decide)
    (hall : (backToKw pos (keywordEach [⟨some f, e, kpos⟩] X.env)).all (·.1.isSome) = true := by rfl) (hks : (backToKw pos (keywordEach [⟨some f, e, kpos⟩] X.env)).filterMap (·.1) = [f] := by rfl)
    (hpl : ((backTo pos (starEach [] X.env)).any (·.1) || (backToKw pos (keywordEach [⟨some f, e, kpos⟩] X.env)).any (·.1.isNone)) = false := by rfl) :
    PE X (.Call (.Name x p) [] [⟨some f, e, kpos⟩] pos) (rdE X (sxMkX x f te)) := se_ofmk hm (mk_kw FB KF SF T hr hsu htop hg hm ha hdb hall hks hpl)
/-- a class without __init__ of its own -/
theorem se_mk0 {initId : String} (F : ExcBaseFacts B newId initId bmB) (q : PySem.W.excIn X.K C bmB newId = true) (kC : PySem.W.keepIn X.K (.ref C) = true) (hg : Gl X x) (hm : X.mg x = some (.ref C)) (ha : PE X e (rdE X te))
    (hs : starEach [e] X.env = (false, eval e X.env) :: starEach [] X.env := by rfl) (hdb : (x == ("__debug__" : Str)) = false := by decide) : PE X (.Call (.Name x p) [e] [] pos) (rdE X (sxMk0 x te)) := (pe_exc1 F q hm kC hg ha hs hdb).imp fun σ H Q ⟨g, sp, S, hS, hE, pp⟩ => by
  refine (rdE.fst (ta := te) hS hE (show Post X g (RepV X.K) (ExcT X g sp) ((te sp S).bind fun _ S1 => .ok (.ref S1.length) (S1 ++ [.exc x []])) Q from pp)).mono fun y H1 ⟨v, g1, S1, l1, q1, e1, r1, p1⟩ => ?_
  intro a ha'
  obtain ⟨q3, l3⟩ := q1.push (so := .exc x []) (o := ExO (.ref C) a) ha' ⟨C, hm, .inr ⟨rfl, upd_same⟩⟩
  refine p1 (.ref a) _ _ l3 q3 ⟨a, rfl, ?_⟩
  have hl : g1.m.length = S1.length := q1.len
  show (g1.m ++ [a])[S1.length]? = some a
  rw [← hl]; simp
end
def askT (K : PySem.W.Frag) (tab : List (Str × List Str)) (ds : List (Str × String)) : Bool :=
  tab.all fun p => exqB K (He.ga K p.1) && ds.all fun d => decide (PySem.W.kitOne K (.ref (He.ga K p.1)) (.type d.2) = some (p.2.contains d.1))
structure AskT (K : PySem.W.Frag) (mg : Str → Option Value) (tab : List (Str × List Str)) (ds : List (Str × String)) : Prop where
  b : askT K tab ds = true
  g : GX K mg tab
theorem AskT.sub {K : PySem.W.Frag} {mg : Str → Option Value} {tab : List (Str × List Str)} {ds : List (Str × String)} (A : AskT K mg tab ds) {d : Str} {t : String} (hd : (d, t) ∈ ds) : ∀ c b, subOf tab d c = some b → ∀ C : Addr, mg c = some (.ref C) → ExQ K C ∧ PySem.W.kitOne K (.ref C) (.type t) = some b := fun c b h C hC => by
  unfold subOf at h
  cases q : tab.lookup c with
  | none => rw [q] at h; cases h
  | some l =>
    rw [q] at h
    cases h
    have hp := mem_of_lookup q
    have e := (A.g _ hp).symm.trans hC
    cases e
    have z := List.all_eq_true.mp A.b _ hp
    simp only [Bool.and_eq_true, List.all_eq_true, decide_eq_true_eq] at z
    exact ⟨exqB_ok z.1, z.2 _ hd⟩
end MX
end
section
namespace MX
open PySem PySem.Spec PyProof.Rows L2
def okF (f : Fs) : Fs := fun as S => match f as S with
  | .ok v S' => .ok v S'
  | _ => .stuck
/-- a def's promise where the exception at a is handled -/
structure FnGH (P : Program) (w : World) (K : PySem.W.Frag) (mg : Str → Option Value) (base : Heap) (k : Nat) (f : Addr) (fd : FuncData) (ps : List Str) (sem : Fs) : Prop where
  run : ∀ (A : Around) (a : Addr) (outer : List Env) (s : Shared) (H : Hp) (args : Args) (us : List Value) (vs : List V) (Q : VK), Room k A → A.guards = some [] → Env0 P w K mg base A outer s H → BindsTo s fd args (ps.zip us) → Vals vs us → spOf K ⟨mg, P, w⟩ ps.length (okF sem) vs H Q (fun _ _ _ => False) →
    codeAny (model P w) (A.mark (some (.ref a))) (.call (.ref f) args) (CR (L2.CX P w) outer P w H s Q (fun _ _ _ => False)) s
theorem FnGH.mono {P : Program} {w : World} {K : PySem.W.Frag} {mg : Str → Option Value} {base : Heap} {j k : Nat} {f : Addr} {fd : FuncData} {ps : List Str} {sem : Fs} (F : FnGH P w K mg base j f fd ps sem) (h : j ≤ k) :
    FnGH P w K mg base k f fd ps sem := ⟨fun A a outer s H args us vs Q hr => F.run A a outer s H args us vs Q (hr.mono h)⟩
section
variable {X : Cx} {k : Nat} {f a : Addr} {pn : List (Addr × Obj)} {fd : FuncData} {ps : List Str} {sem : Fs} {x : Str} {p pos : Pos} {e : Expr} {es : List Expr} {tr : Sa}
theorem run_gH {pins : List (Addr × Obj)} {σ : L2.St} {H : Hp} {s : Shared} {Q : VK} {us : List Value} {vs : List V} {g : Gh} {S : Sto} {sp : Sl} {as : List PV} (F : FnGH X.prog X.w X.K X.mg X.base k f fd ps sem) (hr : Room k X.A) (hgd : X.A.guards = some []) (hb : Binds X.K fd ps [])
    (I : Inv (X.suite a pn) pins σ H s) (r : Vals vs us) (hS : RepS X.K X.mp g S H) (ra : RepVs X.K g as vs) (hl : as.length = ps.length) (h : Post (X.suite a pn) g (RepV X.K) (ExcT (X.suite a pn) g sp) (okF sem as S) Q) :
    wpAny (model X.prog X.w) (X.suite a pn).A (call (.ref f) us) (EP (X.suite a pn) pins σ Q) (X.suite a pn).xe s := by
  have hl2 : (us ++ []).length = ps.length := by rw [List.append_nil, ← r.length, ← ra.length]; exact hl
  have e0 := I.env0
  have e1 : Env0 X.prog X.w X.K X.mg X.base X.A X.stack s H := ⟨e0.frames, e0.mod, e0.bs, e0.bsz, e0.funs, e0.frf, e0.hok, e0.bare⟩
  have b := hb s us I.kIn hl2
  rw [List.append_nil] at b
  refine wpAny_call (codeAny_mono (F.run X.A a X.stack s H ⟨us, []⟩ us vs Q hr hgd e1 b r ⟨g, S, as, hS, ra, hl, ?_⟩) fun r s' hq => ?_)
  · cases ho : okF sem as S with
    | ok a S' => rw [ho] at h; exact h
    | exc x S' => unfold okF at ho; split at ho <;> cases ho
    | stuck => rw [ho] at h; exact h
  · cases r with
    | error e =>
      have hq' : L2.CX X.prog X.w X.stack H s _ e s' := hq
      exact ((passes_call (X := X.suite a pn) (W := fun _ _ _ _ => False) (E := fun _ _ _ => False) takes0 (fun _ _ _ _ z => z)) pins σ H s e s' I hq')
    | ok fl =>
      cases fl with
      | ret u => exact I.after hq
      | next => exact False.elim hq
      | brk => exact False.elim hq
      | cont => exact False.elim hq
theorem se_callH (F : FnGH X.prog X.w X.K X.mg X.base k f fd ps sem) (hr : Room k X.A) (hgd : X.A.guards = some []) (hg : Gl X x) (hm : X.mg x = some (.ref f)) (hk : PySem.W.keepIn X.K (.ref f) = true) (hb : Binds X.K fd ps [])
    (ha : PA (X.suite a pn) (e :: es) (rdA (X.suite a pn) tr)) (hdb : (x == ("__debug__" : Str)) = false := by decide) (he : starEach (e :: es) X.env = (false, eval e X.env) :: starEach es X.env := by rfl) (hpl : (backTo pos (starEach es X.env)).any (·.1) = false := by rfl) :
    PE (X.suite a pn) (.Call (.Name x p) (e :: es) [] pos) (rdE (X.suite a pn) (sxCall ps.length (okF sem) tr)) := by
  refine ⟨fun pins s σ H Q I ⟨g, sp, S, hS, hE, h⟩ => ?_⟩
  refine wpAny_Call_Name_kw (ld_glob (X := X.suite a pn) I hg hm ?_ hdb)
  refine PySem.W.callWith_K (h₀ := X.base) I.ok.mod.kin hk (thn (ha.run pos pins s σ H _ I (rdA.fst hS hE h)) fun us s1 ⟨vs, H1, I1, r, as, g1, S1, l1, q1, e1, r1, p1⟩ => ⟨I1.kIn, ?_⟩) he hpl
  split at p1
  · rename_i hl
    exact run_gH (X := X) F hr hgd hb I1 r q1 r1 hl p1
  · exact p1.elim
end
section
variable {P : Program} {w : World} {K : PySem.W.Frag} {mg : Str → Option Value} {base : Heap} {x qual : Str} {params : Arguments} {body : List Stmt} {scope : Scope} {dvs : List V} {kws : List (Str × V)} {f : Addr} {fd : FuncData}
theorem fn_gH {N ps : List Str} {k : Nat} {t : Ss} (F : FunD K x qual params body scope dvs kws f fd) (S : FnScope N ps scope)
    (hbody : ∀ (cdv : Value) (A : Around) (a : Addr) (outer : List Env) (s : Shared) (H : Hp) (E : XK), Room k (A.deeper (envOfC qual scope s.heap.objs.size f cdv)) → (A.deeper (envOfC qual scope s.heap.objs.size f cdv)).guards = some [] →
      PSs ((CxB P w K mg base N qual scope f cdv A outer s H E).suite a []) body (rdS ((CxB P w K mg base N qual scope f cdv A outer s H E).suite a []) t)) : FnGH P w K mg base (k + 1) f fd ps (bodyF N.length t) := by
  obtain ⟨oc, od, dV, kV, doc, pm, an, cdv, ct, osl, rfl, lk, hcd, _, _⟩ := F.ex
  refine ⟨fun A a outer s H args us vs Q hr hgd e0 hb r ⟨g, S0, as, hS, ra, hlen, hsp⟩ => ?_⟩
  have hl : vs.length = ps.length := by rw [← ra.length]; exact hlen
  have KX : K.In s.heap := e0.mod.kin.keeps fun b o e => (e0.bs b o e).1
  have lim : s.heap.NoLimit := e0.mod.nolimit.keeps fun b o e => (e0.bs b o e).1
  have hkind : ∀ y ∈ ps.zip us, scope.names.lookup y.1 = some .local ∨ (scope.names.lookup y.1 = some .cell ∧ ((cellsFrom (s.heap.objs.size + 1) scope.names []).lookup y.1).isSome = true) := fun ⟨n, v⟩ hy => by
    rcases S.par n (List.of_mem_zip hy).1 with q | q
    · exact .inl q
    · exact .inr ⟨q, PySem.W.cellsFrom_some _ _ _ (.inl q)⟩
  refine codeAny_call_function (show (A.mark (some (.ref a))).depth < recursionLimit from hr.depth) (KX _ _ lk) rfl S.co S.gen rfl (PySem.W.codeRec_of KX hcd) (hb _ _ _ _ ?_)
  refine wpAny_newFunctionEnv_cells S.kind hkind fun env he s1 x => ?_
  subst he
  refine ⟨lim.keeps x.toInCall.keep, codeAny_func ?_⟩
  have ht := hbody cdv A a outer s H (fun _ _ _ => False) (hr.deeper _) hgd
  have I0 : Inv (CxB P w K mg base N qual scope f cdv A outer s H fun _ _ _ => False) [] (L2.start N vs) H s1 := inv_start S hr.hd e0 hl r x
  have I : Inv ((CxB P w K mg base N qual scope f cdv A outer s H fun _ _ _ => False).suite a []) [] (L2.start N vs) H s1 := suiteI (a := a) I0
  have hq : rdS ((CxB P w K mg base N qual scope f cdv A outer s H fun _ _ _ => False).suite a []) t { nx := fun _ H' => Q .non H', rt := Q } (L2.start N vs) H := by
    refine ⟨g, startP N.length as, S0, hS, repE_start ra N, ?_⟩
    unfold okF bodyF at hsp
    cases ho : t (startP N.length as) S0 with
    | rt v S' => rw [ho] at hsp; exact hsp
    | nx sp S' => rw [ho] at hsp; exact fun σ H' g' l q _ => hsp .non H' g' l q rfl
    | exc z sp S' => rw [ho] at hsp; exact hsp.elim
    | bk sp S' => rw [ho] at hsp; exact hsp.elim
    | ct sp S' => rw [ho] at hsp; exact hsp.elim
    | stuck => rw [ho] at hsp; exact hsp.elim
  refine wpAny_mono (ht.run [] s1 (L2.start N vs) H _ I hq) (fun fl s' hs => ?_) fun e s' hs => hs.elim
  have fin : ∀ {σ' : L2.St} {H' : Hp} {v : V} {u : Value}, Inv ((CxB P w K mg base N qual scope f cdv A outer s H fun _ _ _ => False).suite a []) [] σ' H' s' → RelV v u → Q v H' → CE outer P w H s Q u s' :=
    fun {σ' H' v u} J rv q => ⟨v, H', J.os, J.bare, J.base, J.hok, rv, q⟩
  cases fl with
  | ret u =>
    obtain ⟨v, σ', H', J, rv, q⟩ := hs
    exact fin J rv q
  | next =>
    obtain ⟨σ', H', J, q⟩ := hs
    exact fin (v := V.non) (u := Value.none) J rfl q
  | brk =>
    obtain ⟨_, _, _, q⟩ := hs
    exact False.elim q
  | cont =>
    obtain ⟨_, _, _, q⟩ := hs
    exact False.elim q
end
end MX
end
section
namespace MX
open PySem PySem.Spec PyProof.Rows L2
def RR.bnd {α β : Type} (o : RR α) (f : α → RR β) : RR β := match o with
  | .ok a => f a
  | .exc x => .exc x
  | .stuck => .stuck
@[simp] theorem RR.bnd_ok {α β : Type} (a : α) (f : α → RR β) : RR.bnd (.ok a) f = f a := rfl
@[simp] theorem RR.bnd_exc {α β : Type} (x : EX) (f : α → RR β) : RR.bnd (.exc x) f = .exc x := rfl
@[simp] theorem RR.bnd_stuck {α β : Type} (f : α → RR β) : RR.bnd .stuck f = .stuck := rfl
def RR.ofO {α : Type} : Option α → RR α
  | some a => .ok a
  | none => .stuck
@[simp] theorem RR.ofO_some {α : Type} (a : α) : RR.ofO (some a) = .ok a := rfl
@[simp] theorem RR.ofO_none {α : Type} : RR.ofO (none : Option α) = .stuck := rfl
def fitR {α : Type} (xs : List α) : RR (List α) := if xs.length ≤ sizeLine then .ok xs else .stuck
theorem fitR_ok {α : Type} {xs : List α} (h : xs.length ≤ 16777216) : fitR xs = .ok xs := if_pos h
/-- == and in as truth values -/
def eqB {α : Type} [DecidableEq α] (a b : α) : Bool := decide (a = b)
def inB {α : Type} [DecidableEq α] (a : α) (l : List α) : Bool := decide (a ∈ l)
@[simp] theorem eqB_iff {α : Type} [DecidableEq α] {a b : α} : eqB a b = true ↔ a = b := by simp [eqB]
@[simp] theorem inB_iff {α : Type} [DecidableEq α] {a : α} {l : List α} : inB a l = true ↔ a ∈ l := by simp [inB]
@[simp] theorem eqB_iff' {α : Type} [DecidableEq α] {a b : α} : eqB a b = false ↔ ¬ a = b := by simp [eqB]
@[simp] theorem inB_iff' {α : Type} [DecidableEq α] {a : α} {l : List α} : inB a l = false ↔ a ∉ l := by simp [inB]
abbrev W := {x : Str // PyData.strOk x = true}
def eI : Int → PV := .int
def eB : Bool → PV := .bl
def eS : W → PV := fun x => .str x.1
def eN : Unit → PV := fun _ => .non
def eT2 {α β : Type} (e1 : α → PV) (e2 : β → PV) : α × β → PV := fun p => .tup [e1 p.1, e2 p.2]
def eT3 {α β γ : Type} (e1 : α → PV) (e2 : β → PV) (e3 : γ → PV) : α × β × γ → PV := fun p => .tup [e1 p.1, e2 p.2.1, e3 p.2.2]
def eT4 {α β γ δ : Type} (e1 : α → PV) (e2 : β → PV) (e3 : γ → PV) (e4 : δ → PV) : α × β × γ × δ → PV := fun p => .tup [e1 p.1, e2 p.2.1, e3 p.2.2.1, e4 p.2.2.2]
def eV {α : Type} (e : α → PV) : List α → PV := fun l => .tup (l.map e)
def eL {α : Type} (e : α → PV) : List α → PV := fun l => .lst (l.map e)
def eO {α : Type} (e : α → PV) : Option α → PV
  | none => .non
  | some a => e a
class RF {α : Type} (e : α → PV) : Prop where
  b : ∀ a, below 0 (e a) = true
theorem belows_map {α : Type} {e : α → PV} [RF e] : ∀ l : List α, belows 0 (l.map e) = true
  | [] => rfl
  | a :: l => by simp [belows, RF.b a, belows_map l]
instance : RF eI := ⟨fun _ => rfl⟩
instance : RF eB := ⟨fun _ => rfl⟩
instance : RF eS := ⟨fun _ => rfl⟩
instance : RF eN := ⟨fun _ => rfl⟩
instance {α β : Type} {e1 : α → PV} {e2 : β → PV} [RF e1] [RF e2] : RF (eT2 e1 e2) := ⟨fun p => by simp [eT2, below, belows, RF.b p.1, RF.b p.2]⟩
instance {α β γ : Type} {e1 : α → PV} {e2 : β → PV} {e3 : γ → PV} [RF e1] [RF e2] [RF e3] : RF (eT3 e1 e2 e3) := ⟨fun p => by simp [eT3, below, belows, RF.b p.1, RF.b p.2.1, RF.b p.2.2]⟩
instance {α β γ δ : Type} {e1 : α → PV} {e2 : β → PV} {e3 : γ → PV} {e4 : δ → PV} [RF e1] [RF e2] [RF e3] [RF e4] : RF (eT4 e1 e2 e3 e4) := ⟨fun p => by simp [eT4, below, belows, RF.b p.1, RF.b p.2.1, RF.b p.2.2.1, RF.b p.2.2.2]⟩
instance {α : Type} {e : α → PV} [RF e] : RF (eV e) := ⟨fun l => by simp [eV, below, belows_map l]⟩
instance {α : Type} {e : α → PV} [RF e] : RF (eL e) := ⟨fun l => by simp [eL, below, belows_map l]⟩
instance {α : Type} {e : α → PV} [RF e] : RF (eO e) := ⟨fun l => by cases l with
  | none => rfl
  | some a => exact RF.b a⟩
mutual
theorem below_mono {n : Nat} : ∀ x : PV, below 0 x = true → below n x = true
  | .non, _ => rfl
  | .bl _, _ => rfl
  | .int _, _ => rfl
  | .str _, _ => rfl
  | .tup xs, h => by simp only [below] at h ⊢; exact belows_mono xs h
  | .lst xs, h => by simp only [below] at h ⊢; exact belows_mono xs h
  | .ref k, h => by simp [below] at h
  | .adr _ xs _, h => by simp only [below] at h ⊢; exact belows_mono xs h
  | .dic _ xs, h => by simp only [below] at h ⊢; exact belows_mono xs h
theorem belows_mono {n : Nat} : ∀ xs : List PV, belows 0 xs = true → belows n xs = true
  | [], _ => rfl
  | x :: xs, h => by
    simp only [belows, Bool.and_eq_true] at h ⊢
    exact ⟨below_mono x h.1, belows_mono xs h.2⟩
end
/-- data whose == is that of Lean -/
class DE {α : Type} (e : α → PV) (n : outParam Nat) [DecidableEq α] : Prop where
  to : ∀ a, toD (e a) = some (dt (e a))
  lay : ∀ a, (dt (e a)).canLay0 = true
  dep : ∀ a, (dt (e a)).depth ≤ n
  eq : ∀ a b, PyData.eqv (dt (e a)) (dt (e b)) = decide (a = b)
theorem eqv_int (i j : Int) : PyData.eqv (.int i) (.int j) = decide (i = j) := by simp only [PyData.eqv]; rw [Bool.eq_iff_iff]; simp
instance : DE eI 0 := ⟨fun _ => rfl, fun _ => rfl, fun _ => Nat.le_refl _, fun a b => eqv_int a b⟩
instance : DE eB 0 := ⟨fun _ => rfl, fun _ => rfl, fun _ => Nat.le_refl _, fun a b => by simp [eB, dt, PyData.eqv]; cases a <;> cases b <;> rfl⟩
instance : DE eN 0 := ⟨fun _ => rfl, fun _ => rfl, fun _ => Nat.le_refl _, fun _ _ => rfl⟩
instance : DE eS 0 := ⟨fun _ => rfl, fun a => by simpa [eS, dt, PyData.canLay0] using a.2, fun _ => Nat.le_refl _, fun a b => by
  simp only [eS, dt]; rw [eqv_str]; exact decide_eq_decide.mpr Subtype.ext_iff.symm⟩
theorem toDs_of {α : Type} [DecidableEq α] {e : α → PV} {n : Nat} [DE e n] : ∀ l : List α, toDs (l.map e) = some (dts (l.map e))
  | [] => rfl
  | a :: l => by simp [toDs, dts, DE.to (e := e) a, toDs_of l]
theorem lay_of {α : Type} [DecidableEq α] {e : α → PV} {n : Nat} [DE e n] : ∀ l : List α, PyData.canLayAll0 (dts (l.map e)) = true
  | [] => rfl
  | a :: l => by simp [dts, PyData.canLayAll0, DE.lay (e := e) a, lay_of l]
theorem dep_of {α : Type} [DecidableEq α] {e : α → PV} {n : Nat} [DE e n] : ∀ l : List α, PyData.depthAll (dts (l.map e)) ≤ n
  | [] => Nat.zero_le _
  | a :: l => by
    have h1 := DE.dep (e := e) a
    have h2 := dep_of (e := e) l
    simp only [List.map_cons, dts, PyData.depthAll]; omega
theorem eqv_of {α : Type} [DecidableEq α] {e : α → PV} {n : Nat} [DE e n] : ∀ l m : List α, PyData.eqvAll (dts (l.map e)) (dts (m.map e)) = decide (l = m)
  | [], [] => rfl
  | [], _ :: _ => rfl
  | _ :: _, [] => rfl
  | a :: l, b :: m => by
    simp only [List.map_cons, dts, PyData.eqvAll, DE.eq (e := e) a b, eqv_of l m, List.cons.injEq]
    exact (Bool.decide_and _ _).symm
instance {α : Type} [DecidableEq α] {e : α → PV} {n : Nat} [DE e n] : DE (eV e) (n + 1) := ⟨fun l => by simp [eV, toD, dt, toDs_of l], fun l => by simpa [eV, dt, PyData.canLay0] using lay_of (e := e) l, fun l => by
  have := dep_of (e := e) l
  simp only [eV, dt, PyData.depth]; omega, fun l m => by simpa [eV, dt, PyData.eqv] using eqv_of (e := e) l m⟩
instance {α : Type} [DecidableEq α] {e : α → PV} {n : Nat} [DE e n] : DE (eL e) (n + 1) := ⟨fun l => by simp [eL, toD, dt, toDs_of l], fun l => by simpa [eL, dt, PyData.canLay0] using lay_of (e := e) l, fun l => by
  have := dep_of (e := e) l
  simp only [eL, dt, PyData.depth]; omega, fun l m => by simpa [eL, dt, PyData.eqv] using eqv_of (e := e) l m⟩
section
variable {α β γ δ : Type} [DecidableEq α] [DecidableEq β] [DecidableEq γ] [DecidableEq δ] {e1 : α → PV} {e2 : β → PV} {e3 : γ → PV} {e4 : δ → PV} {n1 n2 n3 n4 : Nat} [DE e1 n1] [DE e2 n2] [DE e3 n3] [DE e4 n4]
instance : DE (eT2 e1 e2) (n1 + n2 + 1) := ⟨fun p => by simp [eT2, toD, toDs, dt, dts, DE.to p.1, DE.to p.2], fun p => by simp [eT2, dt, dts, PyData.canLay0, PyData.canLayAll0, DE.lay (e := e1) p.1, DE.lay (e := e2) p.2], fun p => by
  have h1 := DE.dep (e := e1) p.1
  have h2 := DE.dep (e := e2) p.2
  simp only [eT2, dt, dts, PyData.depth, PyData.depthAll]; omega, fun p q => by
  simp only [eT2, dt, dts, PyData.eqv, PyData.eqvAll, DE.eq (e := e1), DE.eq (e := e2), Bool.and_true, Prod.ext_iff]
  exact (Bool.decide_and _ _).symm⟩
instance : DE (eT3 e1 e2 e3) (n1 + n2 + n3 + 1) := ⟨fun p => by simp [eT3, toD, toDs, dt, dts, DE.to p.1, DE.to p.2.1, DE.to p.2.2], fun p => by simp [eT3, dt, dts, PyData.canLay0, PyData.canLayAll0, DE.lay (e := e1) p.1, DE.lay (e := e2) p.2.1, DE.lay (e := e3) p.2.2], fun p => by
  have h1 := DE.dep (e := e1) p.1
  have h2 := DE.dep (e := e2) p.2.1
  have h3 := DE.dep (e := e3) p.2.2
  simp only [eT3, dt, dts, PyData.depth, PyData.depthAll]; omega, fun p q => by
  simp only [eT3, dt, dts, PyData.eqv, PyData.eqvAll, DE.eq (e := e1), DE.eq (e := e2), DE.eq (e := e3), Bool.and_true, Prod.ext_iff]
  rw [Bool.decide_and, Bool.decide_and]⟩
instance : DE (eT4 e1 e2 e3 e4) (n1 + n2 + n3 + n4 + 1) := ⟨fun p => by simp [eT4, toD, toDs, dt, dts, DE.to p.1, DE.to p.2.1, DE.to p.2.2.1, DE.to p.2.2.2], fun p => by simp [eT4, dt, dts, PyData.canLay0, PyData.canLayAll0, DE.lay (e := e1) p.1, DE.lay (e := e2) p.2.1, DE.lay (e := e3) p.2.2.1, DE.lay (e := e4) p.2.2.2], fun p => by
  have h1 := DE.dep (e := e1) p.1
  have h2 := DE.dep (e := e2) p.2.1
  have h3 := DE.dep (e := e3) p.2.2.1
  have h4 := DE.dep (e := e4) p.2.2.2
  simp only [eT4, dt, dts, PyData.depth, PyData.depthAll]; omega, fun p q => by
  simp only [eT4, dt, dts, PyData.eqv, PyData.eqvAll, DE.eq (e := e1), DE.eq (e := e2), DE.eq (e := e3), DE.eq (e := e4), Bool.and_true, Prod.ext_iff]
  rw [Bool.decide_and, Bool.decide_and, Bool.decide_and]⟩
end
/-- data that is not None -/
class NN {α : Type} (e : α → PV) : Prop where
  nn : ∀ a, PyData.eqv (dt (e a)) .none = false ∧ PyData.eqv .none (dt (e a)) = false
  is : ∀ a, e a ≠ .non
instance : NN eI := ⟨fun _ => ⟨rfl, rfl⟩, fun _ h => by cases h⟩
instance : NN eB := ⟨fun _ => ⟨rfl, rfl⟩, fun _ h => by cases h⟩
instance : NN eS := ⟨fun _ => ⟨rfl, rfl⟩, fun _ h => by cases h⟩
instance {α β : Type} {e1 : α → PV} {e2 : β → PV} : NN (eT2 e1 e2) := ⟨fun _ => ⟨rfl, rfl⟩, fun _ h => by cases h⟩
instance {α β γ : Type} {e1 : α → PV} {e2 : β → PV} {e3 : γ → PV} : NN (eT3 e1 e2 e3) := ⟨fun _ => ⟨rfl, rfl⟩, fun _ h => by cases h⟩
instance {α β γ δ : Type} {e1 : α → PV} {e2 : β → PV} {e3 : γ → PV} {e4 : δ → PV} : NN (eT4 e1 e2 e3 e4) := ⟨fun _ => ⟨rfl, rfl⟩, fun _ h => by cases h⟩
instance {α : Type} {e : α → PV} : NN (eV e) := ⟨fun _ => ⟨rfl, rfl⟩, fun _ h => by cases h⟩
instance {α : Type} {e : α → PV} : NN (eL e) := ⟨fun _ => ⟨rfl, rfl⟩, fun _ h => by cases h⟩
instance {α : Type} [DecidableEq α] {e : α → PV} {n : Nat} [DE e n] [NN e] : DE (eO e) n := ⟨fun a => by cases a with
  | none => rfl
  | some a => exact DE.to a, fun a => by cases a with
  | none => rfl
  | some a => exact DE.lay a, fun a => by cases a with
  | none => exact Nat.zero_le _
  | some a => exact DE.dep a, fun a b => by
  cases a with
  | none => cases b with
    | none => rfl
    | some b => exact (NN.nn (e := e) b).2.trans (by simp)
  | some a => cases b with
    | none => exact (NN.nn (e := e) a).1.trans (by simp)
    | some b => exact (DE.eq a b).trans (decide_eq_decide.mpr (by simp))⟩
end MX
end
section
namespace MX
open PySem PySem.Spec PyProof.Rows L2
def EV {α : Type} (te : Sx) (sp : Sl) (L : Sto) (o : RR α) (e : α → PV) : Prop := match o with
  | .ok a => te sp L = .ok (e a) L
  | .exc x => te sp L = .exc x L
  | .stuck => True
def TV (t : St') (sp : Sl) (L : Sto) (o : RR Bool) : Prop := match o with
  | .ok a => t sp L = .ok a L
  | .exc x => t sp L = .exc x L
  | .stuck => True
def AV {α : Type} (t : Sa) (sp : Sl) (L : Sto) (o : RR α) (e : α → List PV) : Prop := match o with
  | .ok a => t sp L = .ok (e a) L
  | .exc x => t sp L = .exc x L
  | .stuck => True
def IV {α : Type} (t : Si) (sp : Sl) (L : Sto) (o : RR (List α)) (e : α → PV) : Prop := match o with
  | .ok a => t sp L = .ok (.items (a.map e)) L
  | .exc x => t sp L = .exc x L
  | .stuck => True
/-- what a def gives -/
def RV {α : Type} (r : RR PV) (o : RR α) (e : α → PV) : Prop := match o with
  | .ok a => r = .ok (e a)
  | .exc x => r = .exc x
  | .stuck => True
section
variable {α β γ δ : Type} {sp : Sl} {L : Sto} {ea : α → PV} {eb : β → PV} {ec : γ → PV} {ta tb tc : Sx} {oa : RR α} {ob : RR β}
theorem EV.run1 {t : Sx} {k : PV → Sto → Out PV} {f : α → RR γ} (ha : EV ta sp L oa ea) (ht : t sp L = (ta sp L).bind k) (hk : ∀ a, match f a with
    | .ok c => k (ea a) L = .ok (ec c) L
    | .exc x => k (ea a) L = .exc x L
    | .stuck => True) : EV t sp L (oa.bnd f) ec := by
  cases oa with
  | stuck => trivial
  | exc x =>
    have h : ta sp L = .exc x L := ha
    show t sp L = _
    rw [ht, h]
  | ok a =>
    have h : ta sp L = .ok (ea a) L := ha
    have q := hk a
    show EV t sp L (f a) ec
    unfold EV
    cases hf : f a with
    | ok c => rw [hf] at q; rw [ht, h]; exact q
    | exc x => rw [hf] at q; rw [ht, h]; exact q
    | stuck => exact True.intro
theorem EV.elim {t : Sx} {o : RR α} (h : EV t sp L o ea) : (match o with
    | .ok c => t sp L = .ok (ea c) L
    | .exc x => t sp L = .exc x L
    | .stuck => True) := by cases o with
  | stuck => trivial
  | _ => exact h
theorem ev_var {i : Nat} {a : α} (h : sp[i]? = some (some (ea a))) : EV (sxVar i) sp L (.ok a) ea := by
  show sxVar i sp L = _
  unfold sxVar; rw [h]
theorem ev_c {v : PV} {a : α} (h : v = ea a) : EV (sxC v) sp L (.ok a) ea := by
  show sxC v sp L = _
  unfold sxC; rw [h]
/-- an operator on two values -/
def O2 (o : V2) (ea : α → PV) (eb : β → PV) (ec : γ → PV) (f : α → β → RR γ) : Prop := ∀ a b L, match f a b with
  | .ok c => o (ea a) (eb b) L = some (ec c, L)
  | .exc _ => False
  | .stuck => True
def O1 (o : V1) (ea : α → PV) (ec : γ → PV) (f : α → RR γ) : Prop := ∀ a L, match f a with
  | .ok c => o (ea a) L = some (ec c, L)
  | .exc _ => False
  | .stuck => True
theorem ev_1 {o : V1} {f : α → RR γ} (ho : O1 o ea ec f) (ha : EV ta sp L oa ea) : EV (sx1 o ta) sp L (oa.bnd f) ec := ha.run1 rfl fun a => by
  have := ho a L
  cases h : f a with
  | ok c => rw [h] at this; show Out.of _ = _; rw [this]
  | exc x => rw [h] at this; exact this.elim
  | stuck => trivial
theorem ev_2 {o : V2} {f : α → β → RR γ} (ho : O2 o ea eb ec f) (ha : EV ta sp L oa ea) (hb : EV tb sp L ob eb) : EV (sx2 o ta tb) sp L (oa.bnd fun a => ob.bnd fun b => f a b) ec := ha.run1 rfl fun a => by
  have hb' := hb.elim
  cases ob with
  | stuck => trivial
  | exc x => show (tb sp L).bind _ = _; rw [(show tb sp L = _ from hb')]
  | ok b =>
    have := ho a b L
    show match f a b with
      | .ok c => _
      | .exc x => _
      | .stuck => True
    cases h : f a b with
    | ok c => rw [h] at this; show (tb sp L).bind _ = _; rw [(show tb sp L = _ from hb')]; show Out.of _ = _; rw [this]
    | exc x => rw [h] at this; exact this.elim
    | stuck => trivial
theorem ev_2t {o : V2} {g : α → β → γ} {a : α} {b : β} (ho : O2 o ea eb ec fun a b => .ok (g a b)) (ha : EV ta sp L (.ok a) ea) (hb : EV tb sp L (.ok b) eb) : EV (sx2 o ta tb) sp L (.ok (g a b)) ec := ev_2 ho ha hb
theorem av_nil : AV saNil sp L (.ok ()) fun _ => [] := rfl
theorem av_cons {tr : Sa} {orr : RR β} {er : β → List PV} (ha : EV ta sp L oa ea) (hr : AV tr sp L orr er) : AV (saCons ta tr) sp L (oa.bnd fun a => orr.bnd fun r => .ok (a, r)) fun p => ea p.1 :: er p.2 := by
  cases oa with
  | stuck => trivial
  | exc x => show saCons ta tr sp L = _; unfold saCons; rw [(show ta sp L = _ from ha)]
  | ok a =>
    cases orr with
    | stuck => trivial
    | exc x => show saCons ta tr sp L = _; unfold saCons; rw [(show ta sp L = _ from ha)]; show (tr sp L).bind _ = _; rw [(show tr sp L = _ from hr)]
    | ok r => show saCons ta tr sp L = _; unfold saCons; rw [(show ta sp L = _ from ha)]; show (tr sp L).bind _ = _; rw [(show tr sp L = _ from hr)]
theorem AV.run1 {t : Sx} {tr : Sa} {or1 : RR α} {er : α → List PV} {k : List PV → Sto → Out PV} {f : α → RR γ} (ha : AV tr sp L or1 er) (ht : t sp L = (tr sp L).bind k) (hk : ∀ a, match f a with
    | .ok c => k (er a) L = .ok (ec c) L
    | .exc x => k (er a) L = .exc x L
    | .stuck => True) : EV t sp L (or1.bnd f) ec := by
  cases or1 with
  | stuck => trivial
  | exc x =>
    have h : tr sp L = .exc x L := ha
    show t sp L = _
    rw [ht, h]
  | ok a =>
    have h : tr sp L = .ok (er a) L := ha
    have q := hk a
    show EV t sp L (f a) ec
    unfold EV
    cases hf : f a with
    | ok c => rw [hf] at q; rw [ht, h]; exact q
    | exc x => rw [hf] at q; rw [ht, h]; exact q
    | stuck => exact True.intro
def ON (o : VN) (er : α → List PV) (ec : γ → PV) (f : α → RR γ) : Prop := ∀ a L, match f a with
  | .ok c => o (er a) L = some (ec c, L)
  | .exc _ => False
  | .stuck => True
theorem ev_n {o : VN} {tr : Sa} {or1 : RR α} {er : α → List PV} {f : α → RR γ} (ho : ON o er ec f) (ha : AV tr sp L or1 er) : EV (sxN o tr) sp L (or1.bnd f) ec := ha.run1 rfl fun a => by
  have := ho a L
  cases h : f a with
  | ok c => rw [h] at this; show Out.of _ = _; rw [this]
  | exc x => rw [h] at this; exact this.elim
  | stuck => trivial
/-- one argument -/
theorem ev_n1 {o : VN} {f : α → RR γ} (ho : ON o (fun a => [ea a]) ec f) (ha : EV ta sp L oa ea) : EV (sxN o (saCons ta saNil)) sp L (oa.bnd f) ec := by
  have h := ev_n (o := o) (f := fun p : α × Unit => f p.1) (ec := ec) (fun p => ho p.1) (av_cons ha av_nil)
  cases oa <;> exact h
theorem ev_n2 {o : VN} {f : α → β → RR γ} (ho : ON o (fun p : α × β => [ea p.1, eb p.2]) ec fun p => f p.1 p.2) (ha : EV ta sp L oa ea) (hb : EV tb sp L ob eb) : EV (sxN o (saCons ta (saCons tb saNil))) sp L (oa.bnd fun a => ob.bnd fun b => f a b) ec := by
  have h := ev_n (o := o) (f := fun p : α × β × Unit => f p.1 p.2.1) (ec := ec) (fun p => ho (p.1, p.2.1)) (av_cons ha (av_cons hb av_nil))
  cases oa <;> cases ob <;> exact h
/-- a call of a def -/
theorem ev_call {n : Nat} {p : List PV → RR PV} {tr : Sa} {or1 : RR α} {er : α → List PV} {f : α → RR γ} (ho : ∀ a, RV (p (er a)) (f a) ec) (ha : AV tr sp L or1 er) (hl : ∀ a, (er a).length = n) : EV (sxCall n (liftP p) tr) sp L (or1.bnd f) ec := ha.run1 rfl fun a => by
  have h := ho a
  unfold RV at h
  show match f a with
    | .ok c => (if (er a).length = n then liftP p (er a) L else .stuck) = .ok (ec c) L
    | .exc x => (if (er a).length = n then liftP p (er a) L else .stuck) = .exc x L
    | .stuck => True
  rw [if_pos (hl a)]
  unfold liftP
  cases hf : f a with
  | ok c => rw [hf] at h; simp only [h]
  | exc x => rw [hf] at h; simp only [h]
  | stuck => trivial
theorem ev_call1 {p : List PV → RR PV} {f : α → RR γ} (ho : ∀ a, RV (p [ea a]) (f a) ec) (ha : EV ta sp L oa ea) : EV (sxCall 1 (liftP p) (saCons ta saNil)) sp L (oa.bnd f) ec := by
  have h := ev_call (n := 1) (p := p) (f := fun p : α × Unit => f p.1) (ec := ec) (fun p => ho p.1) (av_cons ha av_nil) fun _ => rfl
  cases oa <;> exact h
theorem tv_val {o : RR Bool} (h : EV ta sp L o eB) : TV (stB ta) sp L o := by
  cases o with
  | stuck => trivial
  | exc x => show stB ta sp L = _; unfold stB; rw [(show ta sp L = _ from h)]
  | ok a => show stB ta sp L = _; unfold stB; rw [(show ta sp L = _ from h)]; rfl
end
section
variable {α β γ : Type} {sp : Sl} {L : Sto} {t u : St'} {oa ob : RR Bool} {ta tb : Sx} {p q : Bool} {e : α → PV} {o1 o2 : RR α}
theorem TV.elim (h : TV t sp L oa) : (match oa with
    | .ok c => t sp L = .ok c L
    | .exc x => t sp L = .exc x L
    | .stuck => True) := by cases oa with
  | stuck => trivial
  | _ => exact h
theorem tv_or (ha : TV t sp L oa) (hb : TV u sp L ob) : TV (stOr t u) sp L (oa.bnd fun k => if k = true then .ok true else ob) := by
  cases oa with
  | stuck => trivial
  | exc x => show stOr t u sp L = _; unfold stOr; rw [(show t sp L = _ from ha)]
  | ok a =>
    cases a with
    | true => show stOr t u sp L = _; unfold stOr; rw [(show t sp L = _ from ha)]; rfl
    | false =>
      have h : stOr t u sp L = u sp L := by unfold stOr; rw [(show t sp L = _ from ha)]; rfl
      show TV (stOr t u) sp L ob
      unfold TV
      rw [h]; exact hb
theorem tv_not (ha : TV t sp L oa) : TV (stNot t) sp L (oa.bnd fun k => .ok (!k)) := by
  cases oa with
  | stuck => trivial
  | exc x => show stNot t sp L = _; unfold stNot; rw [(show t sp L = _ from ha)]
  | ok a => show stNot t sp L = _; unfold stNot; rw [(show t sp L = _ from ha)]
end
end MX
end
section
namespace MX
open PySem PySem.Spec PyProof.Rows L2
section
variable {α β γ δ : Type} {sp : Sl} {L : Sto} {e : α → PV} {ea : α → PV} {eb : β → PV} {ec : γ → PV} {ed : δ → PV} {ta tb tc td te : Sx} {oa : RR α} {ob : RR β} {oc : RR γ} {od : RR δ}
theorem o_addI : O2 vAdd eI eI eI fun a b => .ok (a + b) := fun _ _ _ => rfl
theorem o_powI : O2 vPow eI eI eI fun a b => if CPow a b then .ok (a ^ b.toNat) else .stuck := fun a b L => by
  try dsimp only
  by_cases h : CPow a b
  · rw [if_pos h]; exact if_pos h
  · rw [if_neg h]; trivial
theorem o_negI : O1 vNeg eI eI fun a => .ok (-a) := fun _ _ => rfl
theorem o_addL : O2 vAdd (eL e) (eL e) (eL e) fun a b => fitR (a ++ b) := fun a b L => by
  unfold fitR
  try dsimp only
  by_cases h : (a ++ b).length ≤ sizeLine
  · rw [if_pos h]
    show vAdd (.lst (a.map e)) (.lst (b.map e)) L = _
    unfold vAdd
    show (if _ then _ else _) = _
    rw [if_pos (by simpa using h)]
    simp [eL]
  · rw [if_neg h]; trivial
theorem atI_map (f : α → β) (l : List α) (i : Int) : atI (l.map f) i = (atI l i).map f := by
  unfold atI
  rw [List.length_map]
  cases ixN l.length i with
  | none => rfl
  | some j => simp
theorem o_itL : O2 vItem (eL e) eI e fun l i => .ofO (atI l i) := fun l i L => by
  dsimp only
  cases h : atI l i with
  | none => trivial
  | some a =>
    show vItem (eL e l) (eI i) L = some (e a, L)
    show (atI (l.map e) i).map _ = _
    rw [atI_map, h]; rfl
theorem ev_t2 (ha : EV ta sp L oa ea) (hb : EV tb sp L ob eb) : EV (sxN vTup (saCons ta (saCons tb saNil))) sp L (oa.bnd fun a => ob.bnd fun b => .ok (a, b)) (eT2 ea eb) := ev_n2 (fun _ _ => rfl) ha hb
theorem ev_t3 (ha : EV ta sp L oa ea) (hb : EV tb sp L ob eb) (hc : EV tc sp L oc ec) : EV (sxN vTup (saCons ta (saCons tb (saCons tc saNil)))) sp L (oa.bnd fun a => ob.bnd fun b => oc.bnd fun c => .ok (a, b, c)) (eT3 ea eb ec) := by
  have h := ev_n (o := vTup) (f := fun p : α × β × γ × Unit => .ok (p.1, p.2.1, p.2.2.1)) (ec := eT3 ea eb ec) (fun _ _ => rfl) (av_cons ha (av_cons hb (av_cons hc av_nil)))
  cases oa <;> cases ob <;> cases oc <;> exact h
theorem av_nilm : AV saNil sp L (.ok ([] : List α)) (List.map e) := rfl
theorem av_consm {tr : Sa} {o1 : RR α} {orr : RR (List α)} (ha : EV ta sp L o1 e) (hr : AV tr sp L orr (List.map e)) : AV (saCons ta tr) sp L (o1.bnd fun a => orr.bnd fun r => .ok (a :: r)) (List.map e) := by
  have h := av_cons ha hr
  cases o1 <;> cases orr <;> exact h
theorem ev_tv {tr : Sa} {orr : RR (List α)} (h : AV tr sp L orr (List.map e)) : EV (sxN vTup tr) sp L (orr.bnd fitR) (eV e) := ev_n (fun l L => by
  unfold fitR
  try dsimp only
  by_cases h : l.length ≤ sizeLine
  · rw [if_pos h]; show vTup _ _ = _; unfold vTup; rw [if_pos (by simpa using h)]; rfl
  · rw [if_neg h]; trivial) h
theorem ev_ll {tr : Sa} {orr : RR (List α)} (h : AV tr sp L orr (List.map e)) : EV (sxN vLst tr) sp L (orr.bnd fitR) (eL e) := ev_n (fun l L => by
  unfold fitR
  try dsimp only
  by_cases h : l.length ≤ sizeLine
  · rw [if_pos h]; show vLst _ _ = _; unfold vLst; rw [if_pos (by simpa using h)]; rfl
  · rw [if_neg h]; trivial) h
theorem o_lenL : ON vLen (fun l => [eL e l]) eI fun l => .ok (l.length : Int) := fun l L => by
  show vLen [eL e l] L = some (eI (l.length : Int), L)
  show (some (l.map e)).map (fun xs => (PV.int xs.length, L)) = _
  simp [eI]
theorem o_min2 : ON vMin2 (fun p : Int × Int => [eI p.1, eI p.2]) eI fun p => .ok (if p.2 < p.1 then p.2 else p.1) := fun p L => rfl
def cutN (xs : List α) (lo hi : Option Int) : List α := (xs.drop (HT.sIx xs.length 0 lo)).take (HT.sIx xs.length xs.length hi - HT.sIx xs.length 0 lo)
theorem IV.run1 {t : Si} {k : PV → Sto → Out Src} {f : α → RR (List γ)} (ha : EV ta sp L oa ea) (ht : t sp L = (ta sp L).bind k) (hk : ∀ a, match f a with
    | .ok c => k (ea a) L = .ok (.items (c.map ec)) L
    | .exc x => k (ea a) L = .exc x L
    | .stuck => True) : IV t sp L (oa.bnd f) ec := by
  cases oa with
  | stuck => trivial
  | exc x =>
    have h : ta sp L = .exc x L := ha
    show t sp L = _
    rw [ht, h]
  | ok a =>
    have h : ta sp L = .ok (ea a) L := ha
    have q := hk a
    show IV t sp L (f a) ec
    unfold IV
    cases hf : f a with
    | ok c => rw [hf] at q; rw [ht, h]; exact q
    | exc x => rw [hf] at q; rw [ht, h]; exact q
    | stuck => exact True.intro
def rngN (lo : Int) (n : Nat) : List Int := (List.range n).map fun i => lo + (i : Nat)
theorem rngP_map (lo : Int) (n : Nat) : rngP lo n = (rngN lo n).map eI := by simp [rngP, rngN, eI]
def rng1R (j : Int) : RR (List Int) := if RngOk j then .ok (rngN 0 j.toNat) else .stuck
theorem iv_range1 {o : RR Int} (h : EV ta sp L o eI) : IV (siRange1 ta) sp L (o.bnd rng1R) eI := IV.run1 h rfl fun a => by
  unfold rng1R
  try dsimp only
  by_cases q : RngOk a
  · rw [if_pos q]; show (if RngOk a then _ else _) = _; rw [if_pos q, rngP_map]
  · rw [if_neg q]; trivial
def enumN : Nat → List α → List (Int × α)
  | _, [] => []
  | i, x :: xs => ((i : Nat), x) :: enumN (i + 1) xs
theorem tv_yes : TV stYes sp L (.ok true) := rfl
end
end MX
end
section
namespace MX
open PySem PySem.Spec PyProof.Rows L2
def GV {τ : Type} (t : Ss) (sp : Sl) (L : Sto) (o : RR τ) (J : τ → SOut → Prop) : Prop := match o with
  | .ok r => J r (t sp L)
  | .exc x => ∃ sp' L', t sp L = .exc x sp' L'
  | .stuck => True
inductive Rz (σ ρ : Type) where
  | nx (s : σ) | ct (s : σ) | bk (s : σ) | rt (v : ρ)
section
variable {τ α β γ σ ρ : Type} {sp sp1 : Sl} {L L1 : Sto} {J : τ → SOut → Prop} {ea e : α → PV} {eb : β → PV} {er : ρ → PV} {te ta tb : Sx} {oa : RR α} {ob : RR β} {o : RR τ} {r t u : Ss}
theorem GV.congr {t' : Ss} (h : GV t' sp1 L1 o J) (e : t sp L = t' sp1 L1) : GV t sp L o J := by
  cases o with
  | stuck => trivial
  | exc x => show ∃ sp' L', t sp L = .exc x sp' L'; rw [e]; exact h
  | ok r => show J r (t sp L); rw [e]; exact h
theorem gv_last (h : GV (ssSeq t ssNil) sp L o J) : GV t sp L o J := h.congr (by
  unfold ssSeq ssNil
  cases t sp L <;> rfl)
theorem gv_skip (h : GV r sp L o J) : GV (ssSeq ssNil r) sp L o J := h.congr rfl
theorem gv_nil {x : τ} (h : J x (.nx sp L)) : GV ssNil sp L (.ok x) J := h
theorem gv_set {i : Nat} {f : α → RR τ} (ha : EV te sp L oa ea) (hr : ∀ a, GV r (sp.set i (some (ea a))) L (f a) J) : GV (ssSeq (ssSet i te) r) sp L (oa.bnd f) J := by
  cases oa with
  | stuck => trivial
  | exc x => exact ⟨sp, L, by unfold ssSeq ssSet; rw [(show te sp L = _ from ha)]⟩
  | ok a => exact (hr a).congr (by unfold ssSeq ssSet; rw [(show te sp L = _ from ha)])
theorem gv_if {c : St'} {oc : RR Bool} {o1 o2 : RR τ} (hc : TV c sp L oc) (h1 : GV (ssSeq t r) sp L o1 J) (h2 : GV (ssSeq u r) sp L o2 J) : GV (ssSeq (ssIf c t u) r) sp L (oc.bnd fun k => if k = true then o1 else o2) J := by
  cases oc with
  | stuck => trivial
  | exc x => exact ⟨sp, L, by unfold ssSeq ssIf; rw [(show c sp L = _ from hc)]⟩
  | ok k =>
    cases k with
    | true => exact h1.congr (by unfold ssSeq ssIf; rw [(show c sp L = _ from hc)]; rfl)
    | false => exact h2.congr (by unfold ssSeq ssIf; rw [(show c sp L = _ from hc)]; rfl)
theorem gv_wpS {vs : List Nat} (hr : GV (ssSeq t r) (wipeP sp vs) L o J) : GV (ssSeq (ssWp vs t) r) sp L o J := hr.congr rfl
def forR (step : α → σ → RR (Rz σ ρ)) : List α → σ → RR (Rz σ ρ)
  | [], s => .ok (.nx s)
  | x :: xs, s => match step x s with
    | .ok (.nx s') => forR step xs s'
    | .ok (.ct s') => forR step xs s'
    | .ok (.bk s') => .ok (.nx s')
    | .ok (.rt v) => .ok (.rt v)
    | .exc x => .exc x
    | .stuck => .stuck
def forK (f : σ → RR τ) (g : ρ → τ) : Rz σ ρ → RR τ
  | .nx s => f s
  | .rt v => .ok (g v)
  | _ => .stuck
def JB (A : σ → Sl × Sto) (er : ρ → PV) : Rz σ ρ → SOut → Prop := fun z out => match z with
  | .nx s => out = .nx (A s).1 (A s).2
  | .ct s => out = .ct (A s).1 (A s).2
  | .bk s => out = .bk (A s).1 (A s).2
  | .rt v => ∃ L', out = .rt (er v) L'
theorem gv_end {vs : List Nat} {J' : τ → SOut → Prop} (h : GV t sp L o J') (hJ : ∀ (x : τ) out, J' x out → J x (match out with
    | .nx sp' S' => .nx (wipeP sp' vs) S'
    | .ct sp' S' => .ct (wipeP sp' vs) S'
    | .bk sp' S' => .bk (wipeP sp' vs) S'
    | o => o)) : GV (ssEnd vs t) sp L o J := by
  cases o with
  | stuck => trivial
  | exc x =>
    obtain ⟨sp', L', e⟩ := h
    exact ⟨sp', L', by unfold ssEnd; rw [e]⟩
  | ok r =>
    have := hJ r _ h
    show J r (ssEnd vs t sp L)
    unfold ssEnd
    exact this
def JBe (vs : List Nat) (A : σ → Sl × Sto) (er : ρ → PV) : Rz σ ρ → SOut → Prop := fun z out => match z with
  | .nx s => ∃ sp' L', out = .nx sp' L' ∧ A s = (wipeP sp' vs, L')
  | .ct s => ∃ sp' L', out = .ct sp' L' ∧ A s = (wipeP sp' vs, L')
  | .bk s => ∃ sp' L', out = .bk sp' L' ∧ A s = (wipeP sp' vs, L')
  | .rt v => ∃ L', out = .rt (er v) L'
theorem gv_endB {vs : List Nat} {A : σ → Sl × Sto} {o : RR (Rz σ ρ)} (h : GV t sp L o (JBe vs A er)) : GV (ssEnd vs t) sp L o (JB A er) := gv_end h fun z out q => by
  cases z with
  | nx s => obtain ⟨sp', L', e, ea⟩ := q; subst e; show SOut.nx _ _ = _; rw [ea]
  | ct s => obtain ⟨sp', L', e, ea⟩ := q; subst e; show SOut.ct _ _ = _; rw [ea]
  | bk s => obtain ⟨sp', L', e, ea⟩ := q; subst e; show SOut.bk _ _ = _; rw [ea]
  | rt v => obtain ⟨L', e⟩ := q; subst e; exact ⟨L', rfl⟩
def JBl (n : Nat) (vs : List Nat) (A : σ → Sl × Sto) (er : ρ → PV) : Rz σ ρ → SOut → Prop := fun z out => match z with
  | .nx s => ∃ sp' L', out = .nx sp' L' ∧ scopeP n vs sp' L' = some (A s)
  | .ct s => ∃ sp' L', out = .ct sp' L' ∧ scopeP n vs sp' L' = some (A s)
  | .bk s => ∃ sp' L', out = .bk sp' L' ∧ scopeP n vs sp' L' = some (A s)
  | .rt v => ∃ L', out = .rt (er v) L'
theorem gv_locB {vs : List Nat} {A : σ → Sl × Sto} {o : RR (Rz σ ρ)} (h : GV t sp L o (JBl L.length vs A er)) : GV (ssLoc vs t) sp L o (JB A er) := by
  cases o with
  | stuck => trivial
  | exc x => obtain ⟨sp', L', e⟩ := h; exact ⟨sp', L', by unfold ssLoc; rw [e]⟩
  | ok z =>
    show JB A er z (ssLoc vs t sp L)
    unfold ssLoc
    cases z with
    | nx s => obtain ⟨sp', L', e, ea⟩ := h; rw [e]; simp only [ea]; exact rfl
    | ct s => obtain ⟨sp', L', e, ea⟩ := h; rw [e]; simp only [ea]; exact rfl
    | bk s => obtain ⟨sp', L', e, ea⟩ := h; rw [e]; simp only [ea]; exact rfl
    | rt v => obtain ⟨L', e⟩ := h; rw [e]; exact ⟨L', rfl⟩
theorem forL_for {tg : Sg} {b : Ss} {A : σ → Sl × Sto} {step : α → σ → RR (Rz σ ρ)} (hb : ∀ x s, ∃ sp1, tg (ea x) (A s).1 (A s).2 = some sp1 ∧ GV b sp1 (A s).2 (step x s) (JB A er)) : ∀ (xs : List α) (s : σ), match forR step xs s with
    | .ok (.nx s') => forL tg b (xs.map ea) (A s).1 (A s).2 = .nx (A s').1 (A s').2
    | .ok (.rt v) => ∃ L', forL tg b (xs.map ea) (A s).1 (A s).2 = .rt (er v) L'
    | .exc x => ∃ sp' L', forL tg b (xs.map ea) (A s).1 (A s).2 = .exc x sp' L'
    | _ => True
  | [], s => rfl
  | x :: xs, s => by
    obtain ⟨sp1, h1, h2⟩ := hb x s
    simp only [List.map_cons, forL, h1, forR]
    cases hs : step x s with
    | stuck => trivial
    | exc y =>
      rw [hs] at h2
      obtain ⟨sp', L', e⟩ := h2
      exact ⟨sp', L', by rw [e]⟩
    | ok z =>
      rw [hs] at h2
      cases z with
      | nx s' => rw [(show b sp1 (A s).2 = _ from h2)]; exact forL_for hb xs s'
      | ct s' => rw [(show b sp1 (A s).2 = _ from h2)]; exact forL_for hb xs s'
      | bk s' => rw [(show b sp1 (A s).2 = _ from h2)]
      | rt v => obtain ⟨L', e⟩ := (show ∃ L', b sp1 (A s).2 = .rt (er v) L' from h2); exact ⟨L', by rw [e]⟩
theorem gv_forB {tg : Sg} {b : Ss} {ti : Si} {A : σ → Sl × Sto} {s0 : σ} {step : α → σ → RR (Rz σ ρ)} {ol : RR (List α)} {f : σ → RR τ} {g : ρ → τ} (hi : IV ti sp L ol ea) (h0 : (sp, L) = A s0) (hb : ∀ x s, ∃ sp1, tg (ea x) (A s).1 (A s).2 = some sp1 ∧ GV b sp1 (A s).2 (step x s) (JB A er))
    (hr : ∀ s, GV r (A s).1 (A s).2 (f s) J) (hJ : ∀ v L', J (g v) (.rt (er v) L')) : GV (ssSeq (ssFor ti tg b) r) sp L (ol.bnd fun xs => (forR step xs s0).bnd (forK f g)) J := by
  cases ol with
  | stuck => trivial
  | exc x => exact ⟨sp, L, by unfold ssSeq ssFor; rw [(show ti sp L = _ from hi)]⟩
  | ok xs =>
    rw [RR.bnd_ok]
    have h := forL_for hb xs s0
    have e0 : ssFor ti tg b sp L = forL tg b (xs.map ea) (A s0).1 (A s0).2 := by
      unfold ssFor
      rw [(show ti sp L = _ from hi), ← h0]
    cases hf : forR step xs s0 with
    | stuck => trivial
    | exc x =>
      rw [hf] at h
      obtain ⟨sp', L', e⟩ := h
      exact ⟨sp', L', by unfold ssSeq; rw [e0, e]⟩
    | ok z =>
      rw [hf] at h
      cases z with
      | nx s => exact (hr s).congr (by unfold ssSeq; rw [e0, (show forL _ _ _ _ _ = _ from h)])
      | rt v =>
        obtain ⟨L', e⟩ := (show ∃ L', forL _ _ _ _ _ = .rt (er v) L' from h)
        show J (g v) (ssSeq _ _ _ _)
        unfold ssSeq
        rw [e0, e]; exact hJ v L'
      | ct s => trivial
      | bk s => trivial
def exOk (x : EX) : Bool := x.fs.all fun q => below 0 q.2
def RR.san {α : Type} : RR α → RR α
  | .exc x => if exOk x = true then .exc x else .stuck
  | o => o
@[simp] theorem RR.san_ok {α : Type} (a : α) : RR.san (.ok a) = .ok a := rfl
def JF (er : ρ → PV) : ρ → SOut → Prop := fun v out => (∃ L', out = .rt (er v) L') ∨ ∃ sp' L', out = .nx sp' L' ∧ er v = .non
theorem jf_rt {v : ρ} {L : Sto} : JF er v (.rt (er v) L) := .inl ⟨L, rfl⟩
end
end MX
end
section
namespace MX
open PySem PySem.Spec PyProof.Rows L2
section
variable {τ α β γ δ σ ρ ε : Type} {sp : Sl} {L : Sto} {J : τ → SOut → Prop} {e : α → PV} {ea : α → PV} {eb : β → PV} {ec : γ → PV} {ed : δ → PV} {eg : ε → PV} {er : ρ → PV} {te ta tb tc td tg' : Sx} {oa : RR α} {ob : RR β} {o : RR τ} {r t u : Ss} {a : α} {b : β} {c : γ} {d : δ} {g' : ε}
theorem ev_1t {o : V1} {g : α → γ} (ho : O1 o ea ec fun a => .ok (g a)) (ha : EV ta sp L (.ok a) ea) : EV (sx1 o ta) sp L (.ok (g a)) ec := ev_1 ho ha
/-- total parts, the operator may fail -/
theorem ev_2p {o : V2} {f : α → β → RR γ} (ho : O2 o ea eb ec f) (ha : EV ta sp L (.ok a) ea) (hb : EV tb sp L (.ok b) eb) : EV (sx2 o ta tb) sp L (f a b) ec := ev_2 ho ha hb
theorem ev_n1t {o : VN} {g : α → γ} (ho : ON o (fun a => [ea a]) ec fun a => .ok (g a)) (ha : EV ta sp L (.ok a) ea) : EV (sxN o (saCons ta saNil)) sp L (.ok (g a)) ec := ev_n1 ho ha
theorem ev_n2t {o : VN} {g : α → β → γ} (ho : ON o (fun p : α × β => [ea p.1, eb p.2]) ec fun p => .ok (g p.1 p.2)) (ha : EV ta sp L (.ok a) ea) (hb : EV tb sp L (.ok b) eb) : EV (sxN o (saCons ta (saCons tb saNil))) sp L (.ok (g a b)) ec := ev_n2 (f := fun a b => .ok (g a b)) ho ha hb
theorem ev_call1t {p : List PV → RR PV} {f : α → RR γ} (ho : ∀ a, RV (p [ea a]) (f a) ec) (ha : EV ta sp L (.ok a) ea) : EV (sxCall 1 (liftP p) (saCons ta saNil)) sp L (f a) ec := ev_call1 ho ha
theorem ev_t2t (ha : EV ta sp L (.ok a) ea) (hb : EV tb sp L (.ok b) eb) : EV (sxN vTup (saCons ta (saCons tb saNil))) sp L (.ok (a, b)) (eT2 ea eb) := ev_t2 ha hb
theorem ev_t3t (ha : EV ta sp L (.ok a) ea) (hb : EV tb sp L (.ok b) eb) (hc : EV tc sp L (.ok c) ec) : EV (sxN vTup (saCons ta (saCons tb (saCons tc saNil)))) sp L (.ok (a, b, c)) (eT3 ea eb ec) := ev_t3 ha hb hc
theorem av_const {tr : Sa} {xs : List α} (ha : EV ta sp L (.ok a) e) (hr : AV tr sp L (.ok xs) (List.map e)) : AV (saCons ta tr) sp L (.ok (a :: xs)) (List.map e) := av_consm ha hr
/-- a written row of at most so many things -/
theorem ev_tvk {tr : Sa} {xs : List α} (h : AV tr sp L (.ok xs) (List.map e)) (hz : Nat.ble xs.length 1000 = true) : EV (sxN vTup tr) sp L (.ok xs) (eV e) := by
  have := ev_tv h
  rwa [RR.bnd_ok, fitR_ok (Nat.le_trans (Nat.le_of_ble_eq_true hz) (by decide))] at this
theorem ev_llk {tr : Sa} {xs : List α} (h : AV tr sp L (.ok xs) (List.map e)) (hz : Nat.ble xs.length 1000 = true) : EV (sxN vLst tr) sp L (.ok xs) (eL e) := by
  have := ev_ll h
  rwa [RR.bnd_ok, fitR_ok (Nat.le_trans (Nat.le_of_ble_eq_true hz) (by decide))] at this
theorem iv_range1t {i : Int} (h : EV ta sp L (.ok i) eI) : IV (siRange1 ta) sp L (rng1R i) eI := iv_range1 h
theorem gv_rett {x : τ} (ha : EV te sp L (.ok a) ea) (hJ : J x (.rt (ea a) L)) : GV (ssSeq (ssRet te) r) sp L (.ok x) J := by
  show J x _; unfold ssSeq ssRet; rw [(show te sp L = _ from ha)]; exact hJ
theorem gv_forBt {tg : Sg} {b : Ss} {ti : Si} {A : σ → Sl × Sto} {s0 : σ} {step : α → σ → RR (Rz σ ρ)} {xs : List α} {f : σ → RR τ} {g : ρ → τ} (hi : IV ti sp L (.ok xs) ea) (h0 : (sp, L) = A s0) (hb : ∀ x s, ∃ sp1, tg (ea x) (A s).1 (A s).2 = some sp1 ∧ GV b sp1 (A s).2 (step x s) (JB A er))
    (hr : ∀ s, GV r (A s).1 (A s).2 (f s) J) (hJ : ∀ v L', J (g v) (.rt (er v) L')) : GV (ssSeq (ssFor ti tg b) r) sp L ((forR step xs s0).bnd (forK f g)) J := gv_forB hi h0 hb hr hJ
end
end MX
end
section
namespace MX
open PySem PySem.Spec PyProof.Rows L2
section
variable {τ α β γ σ ρ : Type} {sp sp2 : Sl} {L L2' : Sto} {J : τ → SOut → Prop} {e : α → PV} {er : ρ → PV} {te : Sx} {o : RR τ} {r : Ss}
theorem slb_nil {n : Nat} : slB n [] = true := rfl
theorem slb_none {n : Nat} (h : slB n sp = true) : slB n (none :: sp) = true := h
theorem slb_v [RF e] {n : Nat} {a : α} (h : slB n sp = true) : slB n (some (e a) :: sp) = true := by
  show (below n (e a) && slB n sp) = true
  rw [below_mono (e a) (RF.b a), h]; rfl
theorem bo_nil {n : Nat} : (([] : Sto).all (belowO n)) = true := rfl
theorem scope_some {n : Nat} {vs : List Nat} (h1 : wipeP sp vs = sp2) (h2 : L.take n = L2') (h3 : L2'.length = n) (h4 : slB n sp2 = true) (h5 : L2'.all (belowO n) = true) : scopeP n vs sp L = some (sp2, L2') := by
  unfold scopeP
  have hn : n ≤ L.length := by
    rw [← h2, List.length_take] at h3; omega
  rw [h1, h2, if_pos ⟨h4, hn, h5⟩]
end
end MX
end
section
namespace MX
open PySem PySem.Spec PyProof.Rows L2
/-- data in order -/
class OE {α : Type} (e : α → PV) (lt : outParam (α → α → Bool)) : Prop where
  ak : ∀ a b, PySem.W.alike (dt (e a)) (dt (e b)) = true
  lt : ∀ a b, PySem.W.dataLt (dt (e a)) (dt (e b)) = lt a b
def ltI (a b : Int) : Bool := decide (a < b)
def ltS (a b : W) : Bool := decide (a.1.cps.toList < b.1.cps.toList)
def ltP {α β : Type} [DecidableEq α] (l1 : α → α → Bool) (l2 : β → β → Bool) (a b : α × β) : Bool := if a.1 = b.1 then l2 a.2 b.2 else l1 a.1 b.1
def ltL {α : Type} [DecidableEq α] (lt : α → α → Bool) : List α → List α → Bool
  | [], [] => false
  | [], _ :: _ => true
  | _ :: _, [] => false
  | a :: l, b :: m => if a = b then ltL lt l m else lt a b
instance : OE eI ltI := ⟨fun _ _ => rfl, fun a b => PySem.W.dataLt_int a b⟩
instance : OE eS ltS := ⟨fun _ _ => rfl, fun a b => PySem.W.dataLt_str a.1 b.1⟩
theorem toks_step {α : Type} [DecidableEq α] {e : α → PV} {n : Nat} [DE e n] {lt : α → α → Bool} [OE e lt] (a b : α) (xs ys : List PyData) :
    PyProof.Rows.lexLt PyProof.Rows.itemOrd (PySem.W.keyToksAll (dt (e a) :: xs)) (PySem.W.keyToksAll (dt (e b) :: ys)) = if a = b then PyProof.Rows.lexLt PyProof.Rows.itemOrd (PySem.W.keyToksAll xs) (PySem.W.keyToksAll ys) else lt a b := by
  by_cases h : a = b
  · subst h
    rw [if_pos rfl]
    exact PySem.W.dataLt_all_yes (OE.ak (e := e) a a) (by rw [DE.eq (e := e)]; simp)
  · rw [if_neg h, ← OE.lt (e := e) a b]
    exact PySem.W.dataLt_all_no (OE.ak (e := e) a b) (by rw [DE.eq (e := e)]; simpa using h)
theorem ak_all {α : Type} {e : α → PV} {lt : α → α → Bool} [OE e lt] : ∀ (l m : List α), PySem.W.alikeAll (dts (l.map e)) (dts (m.map e)) = true
  | [], _ => by simp [dts, PySem.W.alikeAll]
  | _ :: _, [] => by simp [dts, PySem.W.alikeAll]
  | a :: l, b :: m => by simp [dts, PySem.W.alikeAll, OE.ak (e := e) a b, ak_all l m]
theorem lt_all {α : Type} [DecidableEq α] {e : α → PV} {n : Nat} [DE e n] {lt : α → α → Bool} [OE e lt] : ∀ (l m : List α), PyProof.Rows.lexLt PyProof.Rows.itemOrd (PySem.W.keyToksAll (dts (l.map e))) (PySem.W.keyToksAll (dts (m.map e))) = ltL lt l m
  | [], [] => by simp only [List.map_nil, dts, ltL]; exact PyProof.Rows.lex_irrefl _
  | [], b :: m => by
    simp only [List.map_nil, List.map_cons, dts, ltL, PySem.W.keyToksAll]
    rfl
  | a :: l, [] => by
    simp only [List.map_nil, List.map_cons, dts, ltL, PySem.W.keyToksAll]
    rfl
  | a :: l, b :: m => by
    simp only [List.map_cons, dts, ltL]
    rw [toks_step (e := e), lt_all (e := e) l m]
instance {α : Type} [DecidableEq α] {e : α → PV} {n : Nat} [DE e n] {lt : α → α → Bool} [OE e lt] : OE (eV e) (ltL lt) := ⟨fun l m => by
  simp only [eV, dt, PySem.W.alike]; exact ak_all l m, fun l m => by
  simp only [eV, dt]; rw [PySem.W.dataLt_tuple]; exact lt_all l m⟩
instance {α : Type} [DecidableEq α] {e : α → PV} {n : Nat} [DE e n] {lt : α → α → Bool} [OE e lt] : OE (eL e) (ltL lt) := ⟨fun l m => by
  simp only [eL, dt, PySem.W.alike]; exact ak_all l m, fun l m => by
  simp only [eL, dt]; rw [PySem.W.dataLt_list]; exact lt_all l m⟩
theorem toks_last {α : Type} [DecidableEq α] {e1 : α → PV} {n1 : Nat} [DE e1 n1] {l1 : α → α → Bool} [OE e1 l1] (a b : α) : PyProof.Rows.lexLt PyProof.Rows.itemOrd (PySem.W.keyToksAll [dt (e1 a)]) (PySem.W.keyToksAll [dt (e1 b)]) = l1 a b := by
  rw [toks_step (e := e1)]
  split
  · rename_i h
    subst h
    rw [PyProof.Rows.lex_irrefl, ← OE.lt (e := e1)]
    exact (PyProof.Rows.lex_irrefl _).symm
  · rfl
section
variable {α β γ δ : Type} [DecidableEq α] [DecidableEq β] [DecidableEq γ] {e1 : α → PV} {e2 : β → PV} {e3 : γ → PV} {n1 n2 n3 : Nat} [DE e1 n1] [DE e2 n2] [DE e3 n3]
  {l1 : α → α → Bool} {l2 : β → β → Bool} {l3 : γ → γ → Bool} [OE e1 l1] [OE e2 l2] [OE e3 l3]
instance : OE (eT2 e1 e2) (ltP l1 l2) := ⟨fun p q => by simp [eT2, dt, dts, PySem.W.alike, PySem.W.alikeAll, OE.ak (e := e1) p.1 q.1, OE.ak (e := e2) p.2 q.2], fun p q => by
  simp only [eT2, dt, dts]
  rw [PySem.W.dataLt_tuple, toks_step (e := e1), toks_last (e1 := e2)]; rfl⟩
instance : OE (eT3 e1 e2 e3) (ltP l1 (ltP l2 l3)) := ⟨fun p q => by simp [eT3, dt, dts, PySem.W.alike, PySem.W.alikeAll, OE.ak (e := e1) p.1 q.1, OE.ak (e := e2) p.2.1 q.2.1, OE.ak (e := e3) p.2.2 q.2.2], fun p q => by
  simp only [eT3, dt, dts]
  rw [PySem.W.dataLt_tuple, toks_step (e := e1), toks_step (e := e2), toks_last (e1 := e3)]; rfl⟩
end
section
variable {α : Type} [DecidableEq α] {e : α → PV} {n : Nat} [DE e n] {lt : α → α → Bool} [OE e lt]
end
section
variable {α : Type} [DecidableEq α] {n : Nat} {lt : α → α → Bool}
end
end MX
end
section
namespace MX
open PySem PySem.Spec PyProof.Rows L2
/-- data of which rows are never empty -/
class SE {α : Type} (e : α → PV) : Prop where
  kd : (∀ a, ∃ x r, dt (e a) = .tuple (x :: r)) ∨ (∀ a, (∀ xs, dt (e a) ≠ .tuple xs) ∧ dt (e a) ≠ .none)
instance : SE eI := ⟨.inr fun a => ⟨fun xs h => by (simp only [eI, dt] at h; cases h), fun h => by (simp only [eI, dt] at h; cases h)⟩⟩
instance : SE eS := ⟨.inr fun a => ⟨fun xs h => by (simp only [eS, dt] at h; cases h), fun h => by (simp only [eS, dt] at h; cases h)⟩⟩
instance {α β : Type} {e1 : α → PV} {e2 : β → PV} : SE (eT2 e1 e2) := ⟨.inl fun p => ⟨_, _, by simp only [eT2, dt, dts]; rfl⟩⟩
instance {α β γ : Type} {e1 : α → PV} {e2 : β → PV} {e3 : γ → PV} : SE (eT3 e1 e2 e3) := ⟨.inl fun p => ⟨_, _, by simp only [eT3, dt, dts]; rfl⟩⟩
class NE {α : Type} (e : α → PV) : Prop where
  nn : ∀ a, dt (e a) ≠ .none
instance : NE eI := ⟨fun _ h => by simp [eI, dt] at h⟩
instance : NE eS := ⟨fun _ h => by simp [eS, dt] at h⟩
instance : NE eB := ⟨fun _ h => by simp [eB, dt] at h⟩
instance {α β : Type} {e1 : α → PV} {e2 : β → PV} : NE (eT2 e1 e2) := ⟨fun _ h => by simp [eT2, dt] at h⟩
instance {α β γ : Type} {e1 : α → PV} {e2 : β → PV} {e3 : γ → PV} : NE (eT3 e1 e2 e3) := ⟨fun _ h => by simp [eT3, dt] at h⟩
instance {α : Type} {e : α → PV} : NE (eV e) := ⟨fun _ h => by simp [eV, dt] at h⟩
instance {α : Type} {e : α → PV} : NE (eL e) := ⟨fun _ h => by simp [eL, dt] at h⟩
section
variable {α : Type} [DecidableEq α] {e : α → PV} {n : Nat} [DE e n] {lt : α → α → Bool} [OE e lt]
end
class AK {α : Type} (e : α → PV) : Prop where
  sm : ∀ a, (atomK (e a)).isSome = true
  inj : ∀ a b, atomK (e a) = atomK (e b) → a = b
class KY {α : Type} (e : α → PV) : Prop where
  sm : ∀ a, (ukey (e a)).isSome = true
  inj : ∀ a b, ukey (e a) = ukey (e b) → a = b
instance : AK eI := ⟨fun _ => rfl, fun a b h => by simpa [eI, atomK] using h⟩
instance : AK eS := ⟨fun _ => rfl, fun a b h => Subtype.ext (by simpa [eS, atomK] using h)⟩
instance : AK eB := ⟨fun _ => rfl, fun a b h => by cases a <;> cases b <;> first | rfl | (exact absurd h (by decide))⟩
theorem atoms_some {x : PV} {xs : List PV} {k : Key} (h : atomK x = some k) : atomsK (x :: xs) = (atomsK xs).map (k :: ·) := by
  rw [atomsK, h]
section
variable {α β γ : Type} {e : α → PV} {e1 : α → PV} {e2 : β → PV} {e3 : γ → PV} [AK e] [AK e1] [AK e2] [AK e3]
theorem AK.out (e : α → PV) [AK e] (a : α) : ∃ k, atomK (e a) = some k := Option.isSome_iff_exists.mp (AK.sm (e := e) a)
instance : KY (eT2 e1 e2) := ⟨fun p => by
  obtain ⟨k1, h1⟩ := AK.out e1 p.1
  obtain ⟨k2, h2⟩ := AK.out e2 p.2
  simp [eT2, ukey, atomsK, h1, h2], fun p q h => by
  obtain ⟨k1, h1⟩ := AK.out e1 p.1
  obtain ⟨k2, h2⟩ := AK.out e2 p.2
  obtain ⟨m1, j1⟩ := AK.out e1 q.1
  obtain ⟨m2, j2⟩ := AK.out e2 q.2
  simp only [eT2, ukey, atomsK, h1, h2, j1, j2, Option.map_some, Option.some.injEq, List.cons.injEq, and_true] at h
  exact Prod.ext (AK.inj _ _ (by rw [h1, j1, h.1])) (AK.inj _ _ (by rw [h2, j2, h.2]))⟩
instance : KY (eT3 e1 e2 e3) := ⟨fun p => by
  obtain ⟨k1, h1⟩ := AK.out e1 p.1
  obtain ⟨k2, h2⟩ := AK.out e2 p.2.1
  obtain ⟨k3, h3⟩ := AK.out e3 p.2.2
  simp [eT3, ukey, atomsK, h1, h2, h3], fun p q h => by
  obtain ⟨k1, h1⟩ := AK.out e1 p.1
  obtain ⟨k2, h2⟩ := AK.out e2 p.2.1
  obtain ⟨k3, h3⟩ := AK.out e3 p.2.2
  obtain ⟨m1, j1⟩ := AK.out e1 q.1
  obtain ⟨m2, j2⟩ := AK.out e2 q.2.1
  obtain ⟨m3, j3⟩ := AK.out e3 q.2.2
  simp only [eT3, ukey, atomsK, h1, h2, h3, j1, j2, j3, Option.map_some, Option.some.injEq, List.cons.injEq, and_true] at h
  exact Prod.ext (AK.inj _ _ (by rw [h1, j1, h.1])) (Prod.ext (AK.inj _ _ (by rw [h2, j2, h.2.1])) (AK.inj _ _ (by rw [h3, j3, h.2.2])))⟩
theorem atoms_list (e : α → PV) [AK e] : ∀ l : List α, (atomsK (l.map e)).isSome = true
  | [] => rfl
  | a :: l => by
    obtain ⟨k, h⟩ := AK.out e a
    rw [List.map_cons, atoms_some h, Option.isSome_map]
    exact atoms_list e l
theorem atoms_inj (e : α → PV) [AK e] : ∀ l m : List α, atomsK (l.map e) = atomsK (m.map e) → l = m
  | [], [], _ => rfl
  | [], b :: m, h => by
    obtain ⟨k, j⟩ := AK.out e b
    obtain ⟨r, hr⟩ := Option.isSome_iff_exists.mp (atoms_list e m)
    rw [List.map_cons, atoms_some j, hr] at h
    cases h
  | a :: l, [], h => by
    obtain ⟨k, j⟩ := AK.out e a
    obtain ⟨r, hr⟩ := Option.isSome_iff_exists.mp (atoms_list e l)
    rw [List.map_cons, atoms_some j, hr] at h
    cases h
  | a :: l, b :: m, h => by
    obtain ⟨k, j⟩ := AK.out e a
    obtain ⟨k', j'⟩ := AK.out e b
    obtain ⟨r, hr⟩ := Option.isSome_iff_exists.mp (atoms_list e l)
    obtain ⟨r', hr'⟩ := Option.isSome_iff_exists.mp (atoms_list e m)
    rw [List.map_cons, List.map_cons, atoms_some j, atoms_some j', hr, hr'] at h
    simp only [Option.map_some, Option.some.injEq, List.cons.injEq] at h
    rw [AK.inj a b (by rw [j, j', h.1]), atoms_inj e l m (by rw [hr, hr', h.2])]
instance : KY (eV e) := ⟨atoms_list e, atoms_inj e⟩
end
section
variable {α γ : Type} [DecidableEq γ] {ea : α → PV} {ec : γ → PV} {L : Sto} {sp : Sl}
end
def unO {α : Type} : Option α → RR α
  | some a => .ok a
  | none => .stuck
@[simp] theorem unO_some {α : Type} (a : α) : unO (some a) = .ok a := rfl
def eR : Str → PV := .str
def reprP : PV → RR Str
  | .ref _ => .stuck
  | x => match vRepr [x] [] with
    | some (.str z, _) => .ok z
    | _ => .stuck
def reprR {α : Type} (e : α → PV) (a : α) : RR Str := reprP (e a)
theorem reprP_ok {x : PV} {z : Str} (h : reprP x = .ok z) (L : Sto) : vRepr [x] L = some (.str z, L) := by
  have hx : ∀ n, x ≠ .ref n := fun n e => by rw [e] at h; cases h
  have hd : rOf L x = rOf [] x := by
    cases x <;> first | rfl | exact absurd rfl (hx _)
  have h' : (match vRepr [x] [] with
    | some (.str z, _) => RR.ok z
    | _ => .stuck) = .ok z := by
    cases x with
    | ref n => exact absurd rfl (hx n)
    | _ => exact h
  unfold vRepr at h' ⊢
  dsimp only at h' ⊢
  rw [hd]
  cases e : rOf [] x with
  | none => rw [e] at h'; cases h'
  | some d =>
    rw [e] at h'
    dsimp only at h' ⊢
    by_cases hc : d.showable = true ∧ d.depth ≤ 64 ∧ d.shown.length ≤ sizeLine
    · rw [if_pos hc] at h' ⊢
      injection h' with h'
      rw [← h']
    · rw [if_neg hc] at h'; cases h'
/-- any value in which nothing of the store is named -/
abbrev QV := {v : PV // below 0 v = true}
def eQ : QV → PV := fun v => v.1
instance : RF eQ := ⟨fun v => v.2⟩
def qV {α : Type} (e : α → PV) [RF e] (a : α) : QV := ⟨e a, RF.b a⟩
theorem ev_anq {α : Type} {e : α → PV} [RF e] {o : RR α} {te : Sx} {sp : Sl} {L : Sto} (h : EV te sp L o e) : EV te sp L (o.bnd fun a => .ok (qV e a)) eQ := by
  cases o with
  | stuck => trivial
  | exc x => exact h
  | ok a => exact h
theorem ev_anqt {α : Type} {e : α → PV} [RF e] {a : α} {te : Sx} {sp : Sl} {L : Sto} (h : EV te sp L (.ok a) e) : EV te sp L (.ok (qV e a)) eQ := h
section
variable {T : String} {b : Bool} {L : Sto}
end
/-- what a def of truth values gives, read back -/
def bl? : RR PV → RR Bool
  | .ok (.bl b) => .ok b
  | _ => .stuck
def RR.nox {α : Type} : RR α → RR α
  | .ok a => .ok a
  | _ => .stuck
@[simp] theorem RR.nox_ok {α : Type} (a : α) : RR.nox (.ok a) = .ok a := rfl
section
variable {α τ : Type} {e : α → PV}
theorem ae_nil {sp : Sl} {L : Sto} : saNil sp L = .ok [] L := rfl
theorem ae_cons {β : Type} {eb : β → PV} {b : β} {tb : Sx} {tr : Sa} {as : List PV} {sp : Sl} {L : Sto} (h : EV tb sp L (.ok b) eb) (hr : tr sp L = .ok as L) : saCons tb tr sp L = .ok (eb b :: as) L := by
  unfold saCons
  rw [(show tb sp L = _ from h)]
  show (tr sp L).bind _ = _
  rw [hr]
end
end MX
end
section
namespace MX
open PySem PySem.Spec PyProof.Rows L2
section
variable {α : Type} [DecidableEq α] {e : α → PV} {n : Nat} [DE e n]
end
theorem ev_nilP {sp : Sl} {L : Sto} : EV (sxN vTup saNil) sp L (.ok (⟨.tup [], rfl⟩ : QV)) eQ := rfl
theorem ev_nilPL {sp : Sl} {L : Sto} : EV (sxN vLst saNil) sp L (.ok (⟨.lst [], rfl⟩ : QV)) eQ := rfl
end MX
end
section
namespace MX
open PySem PySem.Spec PyProof.Rows L2
section
variable {α β γ : Type} {ea : α → PV} {eb : β → PV} {ec : γ → PV} {L : Sto}
end
end MX
end
section
namespace MX
open PySem PySem.Spec PyProof.Rows L2
section
variable {α : Type} [DecidableEq α] {e : α → PV} {n : Nat} [DE e n]
end
section
variable {α : Type} {e : α → PV} {sp : Sl} {L : Sto}
end
/-- the words of the exceptions: class, word, field -/
def exWords : List (Str × W × Str) := [("BadLot", ⟨"lot", by decide +kernel⟩, "place"), ("BadLevels", ⟨"levels", by decide +kernel⟩, "value"), ("BadRun", ⟨"run", by decide +kernel⟩, "place"), ("BadDeed", ⟨"deed", by decide +kernel⟩, "value"), ("BadSplit", ⟨"split", by decide +kernel⟩, "value"),
  ("BadFirm", ⟨"firm", by decide +kernel⟩, "value"), ("BadSeen", ⟨"seen", by decide +kernel⟩, "value"), ("BadPaper", ⟨"paper", by decide +kernel⟩, "word"), ("TooGreat", ⟨"great", by decide +kernel⟩, "most")]
def wordR (x : EX) : RR (W × QV) := match x with
  | ⟨c, [(f, y)]⟩ => if h : below 0 y = true then (match exWords.lookup c with
    | some (w, g) => if f = g then .ok (w, ⟨y, h⟩) else .stuck
    | none => .stuck) else .stuck
  | _ => .stuck
abbrev KT (α : Type) := α ⊕ (W × QV)
def eK {α : Type} (e : α → PV) : KT α → PV
  | .inl a => .lst [e a]
  | .inr p => .tup [.str p.1.1, p.2.1]
instance {α : Type} {e : α → PV} [RF e] : RF (eK e) := ⟨fun a => by
  cases a with
  | inl a => simp [eK, below, belows, RF.b a]
  | inr p => simp [eK, below, belows, p.2.2]⟩
def toldR {α : Type} (o : RR α) : RR (KT α) := match o with
  | .ok a => .ok (.inl a)
  | .exc x => (match wordR x with
    | .ok p => .ok (.inr p)
    | _ => .stuck)
  | .stuck => .stuck
@[simp] theorem toldR_ok {α : Type} (a : α) : toldR (.ok a) = .ok (.inl a) := rfl
section
variable {α : Type} {e : α → PV} {sp : Sl} {L : Sto} {te : Sx}
def unK {α : Type} : KT α → RR α
  | .inl a => .ok a
  | .inr _ => .stuck
@[simp] theorem unK_inl {α : Type} (a : α) : unK (.inl a : KT α) = .ok a := rfl
end
end MX
end
section
namespace MX
open PySem PySem.Spec PyProof.Rows L2
/-- no value of these is None -/
class NZ {α : Type} (e : α → PV) : Prop where
  nz : ∀ a, dt (e a) ≠ .none
instance : NZ eI := ⟨fun _ z => by cases z⟩
instance : NZ eS := ⟨fun _ z => by cases z⟩
instance {α : Type} {e : α → PV} : NZ (eV e) := ⟨fun _ z => by cases z⟩
instance {α : Type} {e : α → PV} : NZ (eL e) := ⟨fun _ z => by cases z⟩
instance {α β : Type} {e : α → PV} {f : β → PV} : NZ (eT2 e f) := ⟨fun _ z => by cases z⟩
instance {α β γ : Type} {e : α → PV} {f : β → PV} {g : γ → PV} : NZ (eT3 e f g) := ⟨fun _ z => by cases z⟩
section
variable {α : Type} [DecidableEq α] {e : α → PV} {n : Nat} [DE e n] {lt : α → α → Bool} [OE e lt] [NZ e]
end
section
variable {sp : Sl} {L : Sto} {t u v : St'} {oa ob oc : RR Bool} {p q r : Bool}
end
end MX
end
section
namespace MX
open PySem PySem.Spec PyProof.Rows L2
section
variable {α : Type} {e : α → PV}
end
section
variable {α : Type} {e : α → PV} [RF e] {sp : Sl} {L : Sto} {te : Sx} {o : RR (List α)} {l : List α}
end
def instQ (T : String) (v : QV) : RR Bool := match vIsInst T v.1 [] with
  | some (.bl b, []) => .ok b
  | _ => .stuck
def wordRW (ws : List (Str × W × Str)) (x : EX) : RR (W × QV) := match x with
  | ⟨c, [(f, y)]⟩ => if h : below 0 y = true then (match ws.lookup c with
    | some (w, g) => if f = g then .ok (w, ⟨y, h⟩) else .stuck
    | none => .stuck) else .stuck
  | _ => .stuck
def toldRG {α : Type} (ws : List (Str × W × Str)) (o : RR α) : RR (KT α) := match o with
  | .ok a => .ok (.inl a)
  | .exc x => (match wordRW ws x with
    | .ok p => .ok (.inr p)
    | _ => .stuck)
  | .stuck => .stuck
@[simp] theorem toldRG_ok {α : Type} (ws : List (Str × W × Str)) (a : α) : toldRG ws (.ok a) = .ok (.inl a) := rfl
end MX
end
section
namespace MX
open PySem PySem.Spec PyProof.Rows L2
end MX
end
section
namespace MX
open PySem PySem.Spec PyProof.Rows L2
abbrev WR (μ α : Type) := μ → RR (α × μ)
def WR.of {μ α : Type} (o : RR α) : WR μ α := fun m => o.bnd fun a => .ok (a, m)
def WR.bnd {μ α β : Type} (o : WR μ α) (f : α → WR μ β) : WR μ β := fun m => (o m).bnd fun p => f p.1 p.2
/-- what raises is stuck -/
def WR.nox {μ α : Type} (o : WR μ α) : WR μ α := fun m => (o m).nox
def ZW {μ α β : Type} (t : Sl → Sto → Out β) (sp : Sl) (F : μ → Sto) (o : WR μ α) (e : α → β) : Prop := ∀ m, match o m with
  | .ok p => t sp (F m) = .ok (e p.1) (F p.2)
  | .exc x => ∃ S, t sp (F m) = .exc x S
  | .stuck => True
section
variable {μ α β γ δ : Type} {sp : Sl} {F : μ → Sto} {ea : α → PV} {eb : β → PV} {ec : γ → PV} {ta tb tc : Sx} {oa : WR μ α} {ob : WR μ β} {oc : WR μ γ}
theorem zw_bind {β1 β2 : Type} {t : Sl → Sto → Out β2} {t1 : Sl → Sto → Out β1} {k : β1 → Sto → Out β2} {e1 : α → β1} {e : γ → β2} {f : α → WR μ γ} (h1 : ZW t1 sp F oa e1) (ht : ∀ S, t sp S = (t1 sp S).bind k) (hk : ∀ a, ZW (fun _ S => k (e1 a) S) sp F (f a) e) : ZW t sp F (oa.bnd f) e := fun m => by
  have h := h1 m
  unfold WR.bnd
  cases q : oa m with
  | stuck => trivial
  | exc x =>
    rw [q] at h
    obtain ⟨S, z⟩ := h
    exact ⟨S, by rw [ht, z]⟩
  | ok p =>
    rw [q] at h
    have z : t1 sp (F m) = .ok (e1 p.1) (F p.2) := h
    have h2 := hk p.1 p.2
    show match f p.1 p.2 with
      | .ok p => t sp (F m) = .ok (e p.1) (F p.2)
      | .exc x => ∃ S, t sp (F m) = .exc x S
      | .stuck => True
    rw [ht, z]
    exact h2
theorem zw_of {o : RR α} (h : ∀ m, EV ta sp (F m) o ea) : ZW ta sp F (.of o) ea := fun m => by
  have q := h m
  cases o with
  | stuck => trivial
  | exc x => exact ⟨_, q⟩
  | ok a => exact q
theorem zw_ofT {t : St'} {o : RR Bool} (h : ∀ m, TV t sp (F m) o) : ZW t sp F (.of o) id := fun m => by
  have q := h m
  cases o with
  | stuck => trivial
  | exc x => exact ⟨_, q⟩
  | ok a => exact q
theorem zw_ofI {t : Si} {o : RR (List α)} (h : ∀ m, IV t sp (F m) o ea) : ZW t sp F (.of o) (fun l => Src.items (l.map ea)) := fun m => by
  have q := h m
  cases o with
  | stuck => trivial
  | exc x => exact ⟨_, q⟩
  | ok a => exact q
/-- an outcome at once -/
theorem zw_out {β1 : Type} {k : Sto → Out β1} {e : α → β1} {o : RR α} (h : ∀ S, match o with
    | .ok a => k S = .ok (e a) S
    | .exc x => k S = .exc x S
    | .stuck => True) : ZW (fun _ S => k S) sp F (.of o) e := fun m => by
  have q := h (F m)
  cases o with
  | stuck => trivial
  | exc x => exact ⟨_, q⟩
  | ok a => exact q
theorem zw_2 {o : V2} {f : α → β → RR γ} (ho : O2 o ea eb ec f) (ha : ZW ta sp F oa ea) (hb : ZW tb sp F ob eb) : ZW (sx2 o ta tb) sp F (oa.bnd fun a => ob.bnd fun b => .of (f a b)) ec :=
  zw_bind ha (fun _ => rfl) fun a => zw_bind (t1 := fun _ S => tb sp S) hb (fun _ => rfl) fun b => zw_out fun S => by
    have h := ho a b S
    cases q : f a b with
    | ok c => rw [q] at h; show Out.of _ = _; rw [h]
    | exc x => rw [q] at h; exact h.elim
    | stuck => trivial
/-- the same value, told otherwise -/
theorem zw_map {g : α → β} (h : ∀ a, eb (g a) = ea a) (ha : ZW ta sp F oa ea) : ZW ta sp F (oa.bnd fun a => .of (.ok (g a))) eb := fun m => by
  have q := ha m
  unfold WR.bnd
  cases z : oa m with
  | stuck => trivial
  | exc x => rw [z] at q; exact q
  | ok p => rw [z] at q; show ta sp (F m) = .ok (eb (g p.1)) (F p.2); rw [h]; exact q
theorem zw_nil : ZW saNil sp F (.of (.ok ())) (fun _ : Unit => ([] : List PV)) := fun _ => rfl
theorem zw_cons {tr : Sa} {orr : WR μ β} {er : β → List PV} (ha : ZW ta sp F oa ea) (hr : ZW tr sp F orr er) : ZW (saCons ta tr) sp F (oa.bnd fun a => orr.bnd fun r => .of (.ok (a, r))) (fun p => ea p.1 :: er p.2) :=
  zw_bind ha (fun _ => rfl) fun a => zw_bind (t1 := fun _ S => tr sp S) hr (fun _ => rfl) fun b => zw_out (o := .ok (a, b)) fun S => rfl
theorem zw_nilm {e : α → PV} : ZW saNil sp F (.of (.ok [])) (List.map e) := fun _ => rfl
theorem zw_consm {tr : Sa} {e : α → PV} {orr : WR μ (List α)} (ha : ZW ta sp F oa e) (hr : ZW tr sp F orr (List.map e)) : ZW (saCons ta tr) sp F (oa.bnd fun a => orr.bnd fun r => .of (.ok (a :: r))) (List.map e) :=
  zw_bind ha (fun _ => rfl) fun a => zw_bind (t1 := fun _ S => tr sp S) hr (fun _ => rfl) fun b => zw_out (o := .ok (a :: b)) fun S => rfl
theorem zw_n {o : VN} {tr : Sa} {or1 : WR μ α} {er : α → List PV} {f : α → RR γ} (ho : ON o er ec f) (ha : ZW tr sp F or1 er) : ZW (sxN o tr) sp F (or1.bnd fun a => .of (f a)) ec :=
  zw_bind ha (fun _ => rfl) fun a => zw_out fun S => by
    have h := ho a S
    cases q : f a with
    | ok c => rw [q] at h; show Out.of _ = _; rw [h]
    | exc x => rw [q] at h; exact h.elim
    | stuck => trivial
theorem on_ll {e : α → PV} : ON vLst (List.map e) (eL e) fitR := fun l L => by
  unfold fitR
  try dsimp only
  by_cases h : l.length ≤ sizeLine
  · rw [if_pos h]; show vLst _ _ = _; unfold vLst; rw [if_pos (by simpa using h)]; rfl
  · rw [if_neg h]; trivial
theorem zw_ll {tr : Sa} {e : α → PV} {orr : WR μ (List α)} (h : ZW tr sp F orr (List.map e)) : ZW (sxN vLst tr) sp F (orr.bnd fun l => .of (fitR l)) (eL e) := zw_n on_ll h
theorem zw_t2 (ha : ZW ta sp F oa ea) (hb : ZW tb sp F ob eb) : ZW (sxN vTup (saCons ta (saCons tb saNil))) sp F (oa.bnd fun a => ob.bnd fun b => .of (.ok (a, b))) (eT2 ea eb) := fun m => by
  have h := zw_n (o := vTup) (f := fun p : α × β × Unit => .ok (p.1, p.2.1)) (ec := eT2 ea eb) (fun _ _ => rfl) (zw_cons ha (zw_cons hb zw_nil)) m
  unfold WR.bnd WR.of at h ⊢
  cases q : oa m with
  | ok p =>
    rw [q] at h
    simp only [RR.bnd_ok] at h ⊢
    cases q2 : ob p.2 with
    | ok r => rw [q2] at h; exact h
    | exc x => rw [q2] at h; exact h
    | stuck => trivial
  | exc x => rw [q] at h; exact h
  | stuck => trivial
/-- what a def does to a thing, and what it gives -/
def RVO (p : SO → List PV → RR (PV × SO)) (so : μ → SO) (as : List PV) (o : WR μ α) (e : α → PV) : Prop := ∀ m, match o m with
  | .ok q => p (so m) as = .ok (e q.1, so q.2)
  | .exc _ => False
  | .stuck => True
theorem zw_callO {so : μ → SO} {n i k : Nat} {p : SO → List PV → RR (PV × SO)} {tr : Sa} {or1 : WR μ α} {er : α → List PV} {f : α → WR μ γ} (ho : ∀ a, RVO p so (er a) (f a) ec) (hs : sp[i]? = some (some (.ref k))) (hF : ∀ m, (F m)[k]? = some (so m)) (hF2 : ∀ m m', (F m).set k (so m') = F m') (nd : ∀ m, so m ≠ .dead)
    (ha : ZW tr sp F or1 er) (hl : ∀ a, (er a).length + 1 = n) : ZW (sxCall n (liftO p) (saCons (sxVar i) tr)) sp F (or1.bnd f) ec := by
  refine zw_bind ha (t1 := tr) (k := fun as S => if (PV.ref k :: as).length = n then liftO p (.ref k :: as) S else .stuck) (fun S => ?_) fun a => ?_
  · unfold sxCall saCons sxVar
    rw [hs]
    show ((tr sp S).bind fun as S2 => Out.ok (PV.ref k :: as) S2).bind _ = _
    cases tr sp S <;> rfl
  · intro m
    have h := ho a m
    have e : (if (PV.ref k :: er a).length = n then liftO p (.ref k :: er a) (F m) else .stuck) = (match p (so m) (er a) with
      | .ok r => .ok r.1 ((F m).set k r.2)
      | _ => .stuck) := by
      rw [if_pos (by rw [List.length_cons]; exact hl a)]
      unfold liftO
      simp only [hF m]
      cases z : so m with
      | dead => exact absurd z (nd m)
      | _ => rfl
    show match f a m with
      | .ok p_1 => (if (PV.ref k :: er a).length = n then liftO p (.ref k :: er a) (F m) else .stuck) = .ok (ec p_1.1) (F p_1.2)
      | .exc x => ∃ S, (if (PV.ref k :: er a).length = n then liftO p (.ref k :: er a) (F m) else .stuck) = .exc x S
      | .stuck => True
    rw [e]
    cases q : f a m with
    | stuck => trivial
    | exc x => rw [q] at h; exact h.elim
    | ok r =>
      rw [q] at h
      rw [(show p (so m) (er a) = _ from h)]
      show Out.ok (ec r.1) ((F m).set k (so r.2)) = _
      rw [hF2]
theorem zw_seqL {e : α → PV} {o : WR μ (List α)} (h : ZW ta sp F o (eL e)) : ZW (siSeq ta) sp F o (fun l => Src.items (l.map e)) := fun m => by
  have q := h m
  cases z : o m with
  | stuck => trivial
  | exc x => rw [z] at q; obtain ⟨S, q⟩ := q; exact ⟨S, by unfold siSeq; rw [q]⟩
  | ok a => rw [z] at q; show siSeq ta sp (F m) = _; unfold siSeq; rw [(show ta sp (F m) = _ from q)]; rfl
def lcW (p : α → WR μ Bool) (f : α → WR μ γ) : List α → WR μ (List γ)
  | [], m => .ok ([], m)
  | x :: xs, m => match p x m with
    | .ok (true, m1) => match f x m1 with
      | .ok (y, m2) => match lcW p f xs m2 with
        | .ok (r, m3) => .ok (y :: r, m3)
        | _ => .stuck
      | _ => .stuck
    | .ok (false, m1) => lcW p f xs m1
    | _ => .stuck
theorem lcL_W {tg : Sg} {c : St'} {te : Sx} {p : α → WR μ Bool} {f : α → WR μ γ} {E : α → Sl} (ht : ∀ x m, tg (ea x) sp (F m) = some (E x)) (hc : ∀ x, ZW c (E x) F (p x) id) (he : ∀ x, ZW te (E x) F (f x) ec) :
    ∀ (l : List α) (m : μ) (r : List γ) (m' : μ), lcW p f l m = .ok (r, m') → lcL sp tg c te (l.map ea) (F m) = .ok (r.map ec) (F m')
  | [], m, r, m', h => by cases h; rfl
  | x :: l, m, r, m', h => by
    have h1 := hc x m
    simp only [List.map_cons, lcL, ht x m]
    unfold lcW at h
    cases q1 : p x m with
    | stuck => rw [q1] at h; cases h
    | exc y => rw [q1] at h; cases h
    | ok b =>
      obtain ⟨b, m1⟩ := b
      rw [q1] at h h1
      have z1 : c (E x) (F m) = .ok b (F m1) := h1
      rw [z1]
      cases b with
      | false => exact lcL_W ht hc he l m1 r m' h
      | true =>
        have h2 := he x m1
        simp only at h
        cases q2 : f x m1 with
        | stuck => rw [q2] at h; cases h
        | exc y => rw [q2] at h; cases h
        | ok y =>
          obtain ⟨y, m2⟩ := y
          rw [q2] at h h2
          have z2 : te (E x) (F m1) = .ok (ec y) (F m2) := h2
          simp only at h
          cases q3 : lcW p f l m2 with
          | stuck => rw [q3] at h; cases h
          | exc y => rw [q3] at h; cases h
          | ok r2 =>
            obtain ⟨r2, m3⟩ := r2
            rw [q3] at h
            cases h
            simp only [Out.pure, if_true, z2, lcL_W ht hc he l m2 r2 m' q3]
            rfl
theorem lcW_noexc (p : α → WR μ Bool) (f : α → WR μ γ) : ∀ (l : List α) (m : μ) (x : EX), lcW p f l m ≠ .exc x
  | [], m, x, h => by cases h
  | a :: l, m, x, h => by
    unfold lcW at h
    split at h
    · split at h
      · split at h <;> cases h
      · cases h
    · exact lcW_noexc p f l _ x h
    · cases h
theorem zw_lc {ti : Si} {vs : List Nat} {tg : Sg} {c : St'} {te : Sx} {p : α → WR μ Bool} {f : α → WR μ γ} {E : α → Sl} {o : WR μ (List α)} (hi : ZW ti sp F o (fun l => Src.items (l.map ea))) (ht : ∀ x m, tg (ea x) (wipeP sp vs) (F m) = some (E x)) (hc : ∀ x, ZW c (E x) F (p x) id) (he : ∀ x, ZW te (E x) F (f x) ec) :
    ZW (sxLc fzL ti vs tg c te) sp F (o.bnd fun l => (lcW p f l).bnd fun r => .of (fitR r)) (eL ec) :=
  zw_bind hi (t1 := ti) (k := fun src S1 => (lcRun src (wipeP sp vs) tg c te S1).pure fun ys S2 => .of (fzL ys S2)) (fun S => rfl) fun l m => by
    unfold WR.bnd
    cases q : lcW p f l m with
    | stuck => trivial
    | exc x => exact absurd q (lcW_noexc p f l m x)
    | ok r =>
      obtain ⟨r, m'⟩ := r
      simp only [RR.bnd_ok]
      unfold WR.of fitR
      by_cases hz : r.length ≤ sizeLine
      · rw [if_pos hz]
        simp only [RR.bnd_ok]
        show (lcL (wipeP sp vs) tg c te (l.map ea) (F m)).pure (fun ys S2 => .of (fzL ys S2)) = _
        rw [lcL_W ht hc he l m r m' q]
        simp only [Out.pure, fzL]
        rw [if_pos (by simpa using hz)]
        rfl
      · rw [if_neg hz]; trivial
end
section
variable {τ μ α β γ σ ρ : Type} {sp : Sl} {F : μ → Sto} {m : μ} {J : τ → SOut → Prop} {ea e : α → PV} {eb : β → PV} {er : ρ → PV} {te ta tb : Sx} {oa : WR μ α} {ob : WR μ β} {o : RR τ} {r t u : Ss}
theorem gv_bndW {β1 : Type} {t1 : Sl → Sto → Out β1} {e1 : α → β1} {k : β1 → Sto → SOut} {f : α × μ → RR τ} (ha : ZW t1 sp F oa e1) (ht : ∀ S, t sp S = bindS (t1 sp S) sp k) (hk : ∀ p : α × μ, GV (fun _ S => k (e1 p.1) S) sp (F p.2) (f p) J) : GV t sp (F m) ((oa m).bnd f) J := by
  have h := ha m
  cases q : oa m with
  | stuck => trivial
  | exc x =>
    rw [q] at h
    obtain ⟨S, z⟩ := h
    exact ⟨sp, S, by rw [ht, z]⟩
  | ok p =>
    rw [q] at h
    exact (hk p).congr (by rw [ht, (show t1 sp (F m) = _ from h)])
theorem gv_retW {g : α × μ → τ} (ha : ZW te sp F oa ea) (hJ : ∀ p : α × μ, J (g p) (.rt (ea p.1) (F p.2))) : GV (ssSeq (ssRet te) r) sp (F m) ((oa m).bnd fun p => .ok (g p)) J :=
  gv_bndW (f := fun p => .ok (g p)) ha (k := fun v S => .rt v S) (fun S => by unfold ssSeq ssRet; cases te sp S <;> rfl) fun p => hJ p
/-- what is walked over changes the thing; then the walk -/
theorem gv_forW {tg : Sg} {b : Ss} {ti : Si} {ol : WR μ (List α)} {f : List α × μ → RR τ} (hi : ZW ti sp F ol (fun l => Src.items (l.map ea))) (hr : ∀ p : List α × μ, GV (ssSeq (ssFor (fun _ S => .ok (.items (p.1.map ea)) S) tg b) r) sp (F p.2) (f p) J) : GV (ssSeq (ssFor ti tg b) r) sp (F m) ((ol m).bnd f) J :=
  gv_bndW hi (k := fun src S => ssSeq (ssFor (fun _ S => .ok src S) tg b) r sp S) (fun S => by unfold ssSeq ssFor; cases ti sp S <;> rfl) fun p => (hr p).congr rfl
theorem iv_it {l : List α} {L : Sto} : IV (fun _ S => .ok (.items (l.map ea)) S) sp L (.ok l) ea := rfl
/-- a thing is made -/
def RVM (r : RR SO) (o : RR μ) (so : μ → SO) : Prop := match o with
  | .ok m => r = .ok (so m)
  | .exc _ => False
  | .stuck => True
theorem gv_make {i n : Nat} {L : Sto} {p : List PV → RR SO} {so : μ → SO} {tr : Sa} {or1 : RR α} {er : α → List PV} {g : α → RR μ} {f : μ → RR τ} (ho : ∀ a, RVM (p (er a)) (g a) so) (ha : AV tr sp L or1 er) (hl : ∀ a, (er a).length = n) (hr : ∀ m, GV r (sp.set i (some (.ref L.length))) (L ++ [so m]) (f m) J) :
    GV (ssSeq (ssSet i (sxCall n (liftK p) tr)) r) sp L (or1.bnd fun a => (g a).bnd f) J := by
  cases or1 with
  | stuck => trivial
  | exc x => exact ⟨sp, L, by unfold ssSeq ssSet sxCall; rw [(show tr sp L = _ from ha)]⟩
  | ok a =>
    have h := ho a
    rw [RR.bnd_ok]
    cases q : g a with
    | stuck => trivial
    | exc x => rw [q] at h; exact h.elim
    | ok m =>
      rw [q] at h
      refine (hr m).congr ?_
      unfold ssSeq ssSet sxCall
      rw [(show tr sp L = _ from ha)]
      simp only [Out.bind, hl a, if_true, liftK]
      rw [(show p (er a) = _ from h)]
/-- the end of a def that changes a thing -/
def JFO (so : μ → SO) (er : ρ → PV) : ρ × μ → SOut → Prop := fun v out => (∃ L', out = .rt (er v.1) L' ∧ L'[0]? = some (so v.2)) ∨ ∃ sp' L', out = .nx sp' L' ∧ er v.1 = .non ∧ L'[0]? = some (so v.2)
theorem rvo_fn [RF er] {n : Nat} {t : Ss} {as : List PV} {so : μ → SO} {o : WR μ ρ} (hb : belows 0 as = true) (hso : ∀ m, belowO 0 (so m) = true) (h : ∀ m, GV t (startP n (.ref 0 :: as)) [so m] (o m) (JFO so er)) : RVO (objF (bodyF n t)) so as o.nox er := fun m => by
  have q := h m
  unfold WR.nox
  cases z : o m with
  | stuck => trivial
  | exc x => trivial
  | ok p =>
    rw [z] at q
    show objF (bodyF n t) (so m) as = .ok (er p.1, so p.2)
    unfold objF
    rw [if_pos ⟨hb, hso m⟩]
    have q : JFO so er p (t (startP n (.ref 0 :: as)) [so m]) := q
    rcases q with ⟨L', e1, e2⟩ | ⟨sp', L', e1, e2, e3⟩
    · unfold bodyF
      rw [e1]
      simp only [thaw, if_pos (RF.b (e := er) p.1), e2]
      rw [if_pos (hso p.2)]
    · unfold bodyF
      rw [e1, e2]
      simp only [thaw, show below 0 PV.non = true from rfl, if_true, e3]
      rw [if_pos (hso p.2)]
end
end MX
end
section
namespace MX
open PySem PySem.Spec PyProof.Rows L2
section
variable {τ μ α β γ σ ρ : Type} {sp sp1 : Sl} {L L1 : Sto} {J : τ → SOut → Prop} {ea e : α → PV} {er : ρ → PV} {so : μ → SO} {te ta tb : Sx} {o : RR τ} {r t u : Ss}
theorem jfo_rt' {v : ρ × μ} {L : Sto} (h : L[0]? = some (so v.2)) : JFO so er v (.rt (er v.1) L) := .inl ⟨L, rfl, h⟩
theorem zw_callOk {μ γ : Type} {F : μ → Sto} {ec : γ → PV} {so : μ → SO} {n i k : Nat} {p : SO → List PV → RR (PV × SO)} {tr : Sa} {as : List PV} {f : WR μ γ} (ho : RVO p so as f ec) (hs : sp[i]? = some (some (.ref k))) (hF : ∀ m, (F m)[k]? = some (so m)) (hF2 : ∀ m m', (F m).set k (so m') = F m') (nd : ∀ m, so m ≠ .dead)
    (ha : ∀ m, tr sp (F m) = .ok as (F m)) (hl : as.length + 1 = n) : ZW (sxCall n (liftO p) (saCons (sxVar i) tr)) sp F f ec := fun m => by
  have h := zw_callO (or1 := WR.of (.ok ())) (er := fun _ => as) (f := fun _ => f) (fun _ => ho) hs hF hF2 nd (fun m => ha m) (fun _ => hl) m
  exact h
theorem gv_makek {i n : Nat} {p : List PV → RR SO} {so : μ → SO} {tr : Sa} {as : List PV} {g : RR μ} {f : μ → RR τ} (ho : RVM (p as) g so) (ha : tr sp L = .ok as L) (hl : as.length = n) (hr : ∀ m, GV r (sp.set i (some (.ref L.length))) (L ++ [so m]) (f m) J) :
    GV (ssSeq (ssSet i (sxCall n (liftK p) tr)) r) sp L (g.bnd f) J := gv_make (or1 := .ok ()) (er := fun _ => as) (fun _ => ho) ha (fun _ => hl) hr
end
section
variable {μ α β γ δ : Type} {sp : Sl} {F : μ → Sto} {ea : α → PV} {eb : β → PV} {ed : δ → PV} {ec : γ → PV} {so : μ → SO} {ta tb td : Sx} {oa : WR μ α} {ob : WR μ β} {od : WR μ δ} {p : SO → List PV → RR (PV × SO)} {q : List PV → RR PV} {i k : Nat}
end
end MX
end
section
namespace MX
open PySem PySem.Spec PyProof.Rows L2
def qs : (xs : List PV) → belows 0 xs = true → List QV
  | [], _ => []
  | x :: r, h => have h' : below 0 x = true ∧ belows 0 r = true := by simpa only [belows, Bool.and_eq_true] using h
    ⟨x, h'.1⟩ :: qs r h'.2
theorem qs_map : ∀ (xs : List PV) (h : belows 0 xs = true), (qs xs h).map eQ = xs
  | [], _ => rfl
  | x :: r, h => by
    have h' : below 0 x = true ∧ belows 0 r = true := by simpa only [belows, Bool.and_eq_true] using h
    show x :: (qs r h'.2).map eQ = _
    rw [qs_map r h'.2]
theorem qs_of : ∀ (l : List QV) (h : belows 0 (l.map eQ) = true), qs (l.map eQ) h = l
  | [], _ => rfl
  | x :: r, h => by
    have h' : below 0 x.1 = true ∧ belows 0 (r.map eQ) = true := by
      have h2 := h
      simp only [List.map_cons, belows, Bool.and_eq_true] at h2
      exact h2
    show ⟨x.1, _⟩ :: qs (r.map eQ) h'.2 = _
    rw [qs_of r h'.2]
/-- rows of things of any kind, as one thing -/
def qT (l : List QV) : QV := qV (eV eQ) l
def qL (l : List QV) : QV := qV (eL eQ) l
theorem below_tup {xs : List PV} : below 0 (.tup xs) = true → belows 0 xs = true := fun h => by simpa only [below] using h
def tupQ (v : QV) : Option (List QV) := match v with
  | ⟨.tup xs, h⟩ => some (qs xs (below_tup h))
  | _ => none
section
variable {α : Type} {sp : Sl} {L : Sto} {ta tb : Sx} {o : RR QV} {ob : RR (List α)} {ea : α → PV}
end
def op2B (o : V2) (a b : QV) : RR Bool := match o a.1 b.1 [] with
  | some (.bl c, []) => .ok c
  | _ => .stuck
section
variable {α : Type} {sp : Sl} {L : Sto} {ta tb te : Sx}
end
section
variable {α : Type} {e : α → PV} {sp : Sl} {L : Sto}
end
section
variable {μ α : Type} {sp : Sl} {F : μ → Sto} {ta : Sx} {oa : WR μ QV}
end
end MX
namespace MX
open PySem PySem.Spec PyProof.Rows L2
theorem ev_dicE {sp : Sl} {L : Sto} : EV sxDicE sp L (.ok (⟨.dic [] [], rfl⟩ : QV)) eQ := rfl
end MX
namespace MX
open PySem PySem.Spec PyProof.Rows L2
end MX
end
section
namespace MX
open PySem PySem.Spec PyProof.Rows L2
end MX
end
section
namespace MX
open PySem PySem.Spec PyProof.Rows L2
end MX
end
section
namespace MX
open PySem PySem.Spec PyProof.Rows L2
section
variable {sp : Sl} {L : Sto} {te : Sx}
end
end MX
end
section
namespace MX
open PySem PySem.Spec PyProof.Rows L2
section
variable {sp : Sl} {L : Sto} {ta tb : Sx} {oa : RR W}
end
end MX
end
section
namespace MX
open PySem PySem.Spec PyProof.Rows L2
section
variable {sp : Sl} {L : Sto} {ta tb : Sx}
end
end MX
end
section
namespace MX
open PySem PySem.Spec PyProof.Rows L2
section
variable {α β : Type} {e : α → PV} {e2 : β → PV} {sp : Sl} {L : Sto}
end
end MX
namespace MX
open PySem PySem.Spec PyProof.Rows L2
end MX
namespace MX
open PySem PySem.Spec PyProof.Rows L2
end MX
end
section
namespace MX
open PySem PySem.Spec PyProof.Rows L2
end MX
end
section
namespace MX
open PySem PySem.Spec PyProof.Rows L2
end MX
end
section
namespace MX
open PySem PySem.Spec PyProof.Rows L2
end MX
end
section
namespace MS
open PySem PySem.Spec PyProof.Rows L2 MX
noncomputable section
def t_is_thing_1 : Sx := (sx2 vIn (sxVar 1) (sxC (.str "abcdefghijklmnopqrstuvwxyz")))
def t_is_thing : Ss := (ssSeq (ssIf (stOr (stNot (stB (sx1 (vIsInst "str") (sxVar 0)))) (stNot (stB (sxChain vLe vLe (sxC (.int 1)) (sxN vLen (saCons (sxVar 0) saNil)) (sxC (.int 3)))))) (ssRet (sxC (.bl false))) ssNil) (ssRet (sxN vAll (saCons (sxLc fzL (siSeq (sxVar 0)) [1] (sgName 1) stYes t_is_thing_1) saNil))))
def p_is_thing : List PV → RR PV := pureF (bodyF 2 t_is_thing)
def t_l_begun_1 : St' := (stB (sx2 vGe (sxVar 5) (sx2 vPow (sxC (.int 10)) (sxC (.int 18)))))
def t_l_begun_2 : Sx := (sxVar 5)
def t_l_begun_3 : Ss := (ssEnd [5] (ssSet 4 (sx2 vMod (sxN vInt (saCons (sx2 vAdd (sx2 vMulT (sxVar 4) (sxC (.int 48271))) (sxVar 5)) saNil)) (sxC (.int 2147483647)))))
def t_l_begun : Ss := (ssSeq (ssSet 2 (sx2 vAdd (sxSl vSl (sxVar 0) (soPart (sxVar 1)) soNo) (sxSl vSl (sxVar 0) soNo (soPart (sxVar 1))))) (ssSeq (ssSet 3 (sxLc fzL (siSeq (sxVar 2)) [5] (sgName 5) t_l_begun_1 t_l_begun_2)) (ssSeq (ssSet 4 (sx2 vAdd (sxC (.int 89)) (sxVar 1))) (ssSeq (ssWp [5] (ssFor (siSeq (sxVar 2)) (sgName 5) t_l_begun_3)) (ssRet (sxDisp [((sxC (.str "left")), (sxIf (stB (sx2 vNe (sxVar 3) (sxN vLst saNil))) (sx2 vItem (sxVar 3) (sxC (.int 0))) (sxC (.int 0)))), ((sxC (.str "seed")), (sxVar 4)), ((sxC (.str "cells")), (sx2 vAdd (sxVar 2) (sxN vLst (saCons (sx2 vAdd (sx2 vMulT (sxC (.int 29)) (sxVar 1)) (sxC (.int 7))) saNil)))), ((sxC (.str "spot")), (sxC (.int 0)))]))))))
def p_l_begun : List PV → RR SO := makeF (bodyF 6 t_l_begun)
def m_l_begun : Fs := liftK p_l_begun
def t_l_draw : Ss := (ssSeq (ssIf (stB (sx2 vGt (sx2 vDItem (sxVar 0) (sxC (.str "left"))) (sxC (.int 0)))) (ssSeq (ssSet 2 (sx2 vMod (sxN vInt (saCons (sx2 vDItem (sxVar 0) (sxC (.str "left"))) saNil)) (sxVar 1))) (ssSeq (ssSub (sxVar 0) (sxC (.str "left")) (sx2 vFDiv (sx2 vDItem (sxVar 0) (sxC (.str "left"))) (sxVar 1))) (ssRet (sxVar 2)))) ssNil) (ssSeq (ssSet 3 (sx2 vDItem (sxVar 0) (sxC (.str "spot")))) (ssSeq (ssSub (sxVar 0) (sxC (.str "spot")) (sx2 vAdd (sxVar 3) (sxC (.int 1)))) (ssSeq (ssPar 4 5 (saCons (sx2 vDItem (sxVar 0) (sxC (.str "cells"))) (saCons (sx2 vAdd (sx2 vDItem (sxVar 0) (sxC (.str "seed"))) (sx2 vMulT (sx2 vMulT (sxC (.int 40503)) (sxVar 3)) (sxVar 3))) saNil))) (ssSeq (ssSet 6 (sx2 vItem (sxVar 4) (sx2 vMod (sxN vInt (saCons (sxVar 3) saNil)) (sxN vLen (saCons (sxVar 4) saNil))))) (ssSeq (ssSet 7 (sx2 vMod (sxN vInt (saCons (sx2 vAdd (sx2 vMulT (sxVar 6) (sx2 vAdd (sx2 vMulT (sxC (.int 2)) (sxVar 3)) (sxC (.int 3)))) (sxVar 5)) saNil)) (sxC (.int 2147483647)))) (ssSeq (ssSet 7 (sx2 vMod (sxN vInt (saCons (sx2 vAdd (sx2 vAdd (sx2 vMulT (sxVar 7) (sxVar 7)) (sx2 vMulT (sxC (.int 69621)) (sxVar 3))) (sx2 vDItem (sxVar 0) (sxC (.str "seed")))) saNil)) (sxC (.int 2147483629)))) (ssRet (sx2 vMod (sx2 vFDiv (sx2 vMod (sxN vInt (saCons (sx2 vAdd (sx2 vMulT (sxVar 7) (sxC (.int 48271))) (sxVar 3)) saNil)) (sxC (.int 2147483647))) (sxC (.int 11))) (sxVar 1))))))))))
def p_l_draw : SO → List PV → RR (PV × SO) := objF (bodyF 8 t_l_draw)
def m_l_draw : Fs := liftO p_l_draw
def t_l_of : Ss := (ssRet (sx2 vItem (sxVar 1) (sxCall 2 m_l_draw (saCons (sxVar 0) (saCons (sxN vLen (saCons (sxVar 1) saNil)) saNil)))))
def p_l_of : SO → List PV → RR (PV × SO) := objF (bodyF 2 t_l_of)
def m_l_of : Fs := liftO p_l_of
end
end MS
end
section
namespace MS
open PySem PySem.Spec PyProof.Rows L2 MX
end MS
end
section
namespace MS
open PySem PySem.Spec PyProof.Rows L2 MX
def w_ : W := ⟨"", by decide +kernel⟩
def w_a : W := ⟨"a", by decide +kernel⟩
def w_early : W := ⟨"early", by decide +kernel⟩
def w_guarded : W := ⟨"guarded", by decide +kernel⟩
def w_late : W := ⟨"late", by decide +kernel⟩
def w_look : W := ⟨"look", by decide +kernel⟩
def w_mark : W := ⟨"mark", by decide +kernel⟩
def w_missed : W := ⟨"missed", by decide +kernel⟩
def w_over : W := ⟨"over", by decide +kernel⟩
def w_shown : W := ⟨"shown", by decide +kernel⟩
end MS
end
section
namespace MS
open PySem PySem.Spec PyProof.Rows L2 MX
def n_is_thing (a0 : W) : RR Bool := bl? (p_is_thing [eS a0])
end MS
end
section
namespace MS
open PySem PySem.Spec PyProof.Rows L2 MX
/-- the machine of the draws: the digits left, the seed, the cells, the spot -/
structure Mc where
  l : Int
  sd : Int
  cs : List Int
  sp : Int
def machO (m : Mc) : SO := .dct [(.inr "left", .int m.l), (.inr "seed", .int m.sd), (.inr "cells", .lst (m.cs.map .int)), (.inr "spot", .int m.sp)]
theorem machO_b (m : Mc) : belowO 0 (machO m) = true := by
  unfold machO belowO
  simp only [List.all_cons, List.all_nil, below, Bool.and_true, Bool.true_and]
  exact belows_map (e := eI) m.cs
theorem machO_nd (m : Mc) : machO m ≠ .dead := fun z => by unfold machO at z; cases z
def decL : List PV → Option (List Int)
  | [] => some []
  | .int i :: r => (decL r).map (i :: ·)
  | _ => none
theorem decL_ok : ∀ {l : List PV} {r : List Int}, decL l = some r → l = r.map .int
  | [], _, h => by cases h; rfl
  | .int i :: l, _, h => by
    simp only [decL, Option.map_eq_some_iff] at h
    obtain ⟨r, h1, rfl⟩ := h
    rw [decL_ok h1]; rfl
  | .non :: _, _, h => by cases h
  | .bl _ :: _, _, h => by cases h
  | .str _ :: _, _, h => by cases h
  | .tup _ :: _, _, h => by cases h
  | .lst _ :: _, _, h => by cases h
  | .ref _ :: _, _, h => by cases h
  | .adr _ _ _ :: _, _, h => by cases h
  | .dic _ _ :: _, _, h => by cases h
def decM : SO → Option Mc
  | .dct [(k1, .int l), (k2, .int sd), (k3, .lst cs), (k4, .int sp)] => if k1 = .inr "left" ∧ k2 = .inr "seed" ∧ k3 = .inr "cells" ∧ k4 = .inr "spot" then (decL cs).map fun c => ⟨l, sd, c, sp⟩ else none
  | _ => none
theorem decM_ok {so : SO} {m : Mc} (h : decM so = some m) : so = machO m := by
  unfold decM at h
  split at h
  · rename_i k1 l k2 sd k3 cs k4 sp
    split at h
    · rename_i hk
      obtain ⟨h1, h2, h3, h4⟩ := hk
      simp only [Option.map_eq_some_iff] at h
      obtain ⟨c, e, rfl⟩ := h
      rw [decL_ok e, h1, h2, h3, h4]; rfl
    · cases h
  · cases h
def decR (r : RR SO) : RR Mc := match r with
  | .ok so => match decM so with
    | some m => .ok m
    | none => .stuck
  | _ => .stuck
theorem rvm_dec (r : RR SO) : RVM r (decR r) machO := by
  unfold decR
  cases r with
  | ok so =>
    simp only
    cases h : decM so with
    | none => trivial
    | some m => show RR.ok so = _; rw [decM_ok h]
  | exc x => trivial
  | stuck => trivial
/-- a draw -/
def n_l_draw (a0 : Int) : WR Mc Int := fun m => match p_l_draw (machO m) [eI a0] with
  | .ok (.int i, so) => match decM so with
    | some m' => .ok (i, m')
    | none => .stuck
  | _ => .stuck
theorem x_l_draw (a0 : Int) : RVO p_l_draw machO [eI a0] (n_l_draw a0) eI := fun m => by
  unfold n_l_draw
  cases h : p_l_draw (machO m) [eI a0] with
  | ok q =>
    obtain ⟨v, so⟩ := q
    cases v with
    | int i =>
      simp only
      cases h2 : decM so with
      | none => trivial
      | some m' => show RR.ok (PV.int i, so) = _; rw [decM_ok h2]; rfl
    | _ => trivial
  | exc x => trivial
  | stuck => trivial
/-- one of some things -/
def n_l_ofL {α : Type} (l : List α) : WR Mc α := WR.bnd (n_l_draw l.length) fun j => WR.of (RR.ofO (atI l j))
theorem t_of_eq : t_l_of = ssRet (sx2 vItem (sxVar 1) (sxCall 2 m_l_draw (saCons (sxVar 0) (saCons (sxN vLen (saCons (sxVar 1) saNil)) saNil)))) := rfl
theorem x_l_ofL {α : Type} {e : α → PV} [RF e] (l : List α) : RVO p_l_of machO [eL e l] (n_l_ofL l).nox e := by
  refine rvo_fn (n := 2) (t := t_l_of) (by simp only [belows, RF.b, Bool.and_self]) machO_b fun m => gv_last ?_
  rw [t_of_eq]
  have h : ZW (sx2 vItem (sxVar 1) (sxCall 2 m_l_draw (saCons (sxVar 0) (saCons (sxN vLen (saCons (sxVar 1) saNil)) saNil)))) (startP 2 (.ref 0 :: [eL e l])) (fun m => [machO m]) ((WR.of (.ok l)).bnd fun x => (n_l_draw l.length).bnd fun j => .of (RR.ofO (atI x j))) e :=
    zw_2 (o_itL (e := e)) (zw_of fun m => ev_var rfl) (zw_callOk (x_l_draw _) rfl (fun _ => rfl) (fun _ _ => rfl) machO_nd (fun m => ae_cons (ev_n1t (g := fun x : List α => (x.length : Int)) (o_lenL (e := e)) (ev_var (a := l) rfl)) ae_nil) rfl)
  have g := gv_retW (J := JFO machO e) (r := ssNil) (F := fun m => [machO m]) (m := m) (g := fun p => p) h fun p => jfo_rt' rfl
  have e1 : (((WR.of (.ok l)).bnd fun x => (n_l_draw l.length).bnd fun j => .of (RR.ofO (atI x j))) m).bnd (fun p => RR.ok p) = n_l_ofL l m := by
    show (RR.bnd (n_l_ofL l m) fun p => .ok p) = _
    cases n_l_ofL l m <;> rfl
  rw [e1] at g
  exact g
end MS
end
section
namespace MS
open PySem PySem.Spec PyProof.Rows L2 MX
end MS
end
section
set_option maxHeartbeats 2000000
namespace MS
open PySem PySem.Spec PyProof.Rows L2 MX
def n_is_step (a0 : (W × W)) : RR Bool := RR.san (if ((!true) || ((!eqB (2 : Int) (2 : Int)) || (!true))) = true then .ok false else (RR.bnd (.ok (inB a0.1 [w_look, w_mark])) fun v1 => if v1 = true then (n_is_thing a0.2) else .ok false))
def n_can_follow (a0 : (List (W × W))) (a1 : (W × W)) : RR Bool := RR.san (RR.bnd (RR.bnd (RR.bnd (n_is_step a1) fun v1 => .ok (!v1)) fun v2 => if v2 = true then .ok true else (.ok (inB a1 a0))) fun v3 => if v3 = true then .ok false else .ok ((eqB a1.1 w_mark) || (!inB (w_mark, a1.2) a0)))
def n_wrong_step (a0 : (List (W × W))) : RR (Option Int) := RR.san (RR.bnd (forR (fun v1 v2 => (RR.bnd (RR.bnd (n_can_follow (cutN a0 none (some v1.1)) v1.2) fun v3 => .ok (!v3)) fun v4 => if v4 = true then .ok (.rt (some v1.1)) else .ok (.nx ()))) (enumN 0 a0) ()) (forK (fun v5 => .ok (none : (Option Int))) (fun v => v)))
def n_wrong_place (a0 : (List (List (W × W)))) : RR (Option (List Int)) := RR.san (if ((!true) || (!((decide ((1 : Int) ≤ (a0.length : Int))) && (decide ((a0.length : Int) ≤ (5 : Int)))))) = true then .ok (some ([] : (List Int))) else (RR.bnd (forR (fun v1 v2 => (if ((!true) || (!((decide ((1 : Int) ≤ (v1.2.length : Int))) && (decide ((v1.2.length : Int) ≤ (5 : Int)))))) = true then .ok (.rt (some [v1.1])) else (RR.bnd (n_wrong_step v1.2) fun v3 => (if (Option.isSome v3) = true then (RR.bnd (RR.bnd (RR.bnd (RR.bnd (.ok v1.1) fun v10 => RR.bnd (RR.bnd (unO v3) fun v8 => RR.bnd (.ok []) fun v9 => .ok (v8 :: v9)) fun v11 => .ok (v10 :: v11)) fitR) fun a => .ok (some a)) fun v12 => .ok (.rt v12)) else .ok (.nx ()))))) (enumN 0 a0) ()) (forK (fun v13 => .ok (none : (Option (List Int)))) (fun v => v))))
def n_need_lot (a0 : (List (List (W × W)))) : RR (List (List (W × W))) := RR.san (RR.bnd (n_wrong_place a0) fun v1 => (if (Option.isSome v1) = true then (RR.bnd (.ok v1) fun v3 => .exc ⟨"BadLot", [("place", (eO (eV eI)) v3)]⟩) else .ok a0))
def n_l_begun (a0 : (List Int)) (a1 : Int) : RR Mc := decR (p_l_begun [(eL eI) a0, eI a1])
theorem x_l_begun (a0 : (List Int)) (a1 : Int) : RVM (p_l_begun [(eL eI) a0, eI a1]) (n_l_begun a0 a1) machO := rvm_dec _
def n_is_whole (a0 : Int) (a1 : Int) (a2 : Int) : RR Bool := RR.san (.ok (true && ((!false) && ((decide (a1 ≤ a0)) && (decide (a0 ≤ a2))))))
def n_are_levels (a0 : (List (List (W × W)))) (a1 : (List W)) : RR Bool := RR.san (if ((!true) || (!eqB (a1.length : Int) (a0.length : Int))) = true then .ok false else (RR.bnd (fitR (List.map (fun v1 => (true && (inB v1 [w_late, w_early, w_guarded]))) a1)) fun v2 => RR.ok (List.all v2 id)))
def n_need_levels (a0 : (List (List (W × W)))) (a1 : (List W)) : RR (List W) := RR.san (RR.bnd (n_need_lot a0) fun v5 => (RR.bnd (RR.bnd (n_are_levels a0 a1) fun v1 => .ok (!v1)) fun v4 => if v4 = true then (RR.bnd (.ok a1) fun v3 => .exc ⟨"BadLevels", [("value", (eV eS) v3)]⟩) else .ok a1))
def n_wrong_spot (a0 : (List (List (W × W)))) (a1 : (List Int)) : RR (Option Int) := RR.san (RR.bnd (fitR (List.map (fun v2 => ((v2.length : Int) + (1 : Int))) a0)) fun v3 => (RR.bnd (forR (fun v4 v5 => (RR.bnd (RR.bnd (RR.bnd (n_is_whole v4.2 (0 : Int) ((a0.length : Int) - (1 : Int))) fun v6 => .ok (!v6)) fun v10 => if v10 = true then .ok true else (RR.bnd (RR.bnd (.ok v4.2) fun v7 => .ofO (atI v5 v7)) fun v8 => RR.bnd (.ok (0 : Int)) fun v9 => RR.ok (eqB v8 v9))) fun v15 => if v15 = true then .ok (.rt (some v4.1)) else (RR.bnd (.ok v4.2) fun v11 => RR.bnd (RR.ofO (atI v5 v11)) fun v12 => RR.bnd (.ok (1 : Int)) fun v13 => RR.bnd (RR.ofO (ixN v5.length v11)) fun v14 => .ok (.nx (List.set v5 v14 (v12 - v13)))))) (enumN 0 a1) v3) (forK (fun v16 => .ok (none : (Option Int))) (fun v => v))))
def n_need_run (a0 : (List (List (W × W)))) (a1 : (List Int)) : RR (List Int) := RR.san (RR.bnd (n_need_lot a0) fun v12 => (RR.bnd (RR.bnd (.ok (!true)) fun v5 => if v5 = true then .ok true else (RR.bnd (.ok (a1.length : Int)) fun v3 => RR.bnd (RR.bnd (fitR (List.map (fun v1 => ((v1.length : Int) + (1 : Int))) a0)) fun v2 => RR.ok (List.sum v2)) fun v4 => RR.ok (!eqB v3 v4))) fun v11 => if v11 = true then (RR.bnd (.ok ()) fun v7 => .exc ⟨"BadRun", [("place", eN v7)]⟩) else (RR.bnd (n_wrong_spot a0 a1) fun v8 => (if (Option.isSome v8) = true then (RR.bnd (.ok v8) fun v10 => .exc ⟨"BadRun", [("place", (eO eI) v10)]⟩) else .ok a1))))
def n_need_all (a0 : (List (List (W × W)))) (a1 : (List W)) (a2 : (List Int)) : RR Unit := RR.san (RR.bnd (n_need_levels a0 a1) fun v2 => (RR.bnd (n_need_run a0 a2) fun v1 => .ok ()))
end MS
end
section
namespace K25
open PySem PySem.Spec PyProof.Rows L2 MX MS
noncomputable section
def t_l_things_1 : Sx := (sxCall 2 m_l_of (saCons (sxVar 0) (saCons (sxVar 1) saNil)))
def t_l_things : Ss := (ssSeq (ssSet 1 (sxN vLst (saCons (sxC .non) (saCons (sxC (.int 0)) (saCons (sx1 vNeg (sxC (.int 1))) (saCons (sxC (.int 5)) (saCons (sxC (.bl true)) (saCons (sxC (.bl false)) (saCons (sxC (.str "")) (saCons (sxC (.str "late")) (saCons (sxC (.str "a b")) (saCons (sxN vTup saNil) (saCons (sxN vTup (saCons (sxC (.int 0)) saNil)) (saCons (sxN vTup (saCons (sxC (.int 1)) (saCons (sxC .non) saNil))) (saCons (sxN vTup (saCons (sxN vTup (saCons (sxC (.int 0)) (saCons (sxC (.int 1)) saNil))) (saCons (sxN vTup saNil) saNil))) (saCons (sxN vLst saNil) (saCons (sxN vLst (saCons (sxC (.int 1)) saNil)) (saCons sxDicE (saCons (sxDicF [((sxC (.str "a")), (sxC (.int 1)))]) saNil))))))))))))))))))) (ssSeq (ssSet 1 (sx2 vAdd (sxVar 1) (sxN vLst (saCons (sx2 vPow (sxC (.int 10)) (sxC (.int 30))) (saCons (sxN vTup (saCons (sxC (.int 0)) (saCons (sxC (.int 1)) (saCons (sxN vTup (saCons (sxC (.int 1)) saNil)) saNil)))) (saCons (sxN vTup (saCons (sxC (.str "look")) (saCons (sxC (.str "a")) saNil))) (saCons (sxN vLst (saCons (sxN vTup (saCons (sxC (.int 0)) (saCons (sxC (.int 0)) (saCons (sxC .non) saNil)))) saNil)) (saCons (sxC (.str "closed")) (saCons (sxN vTup (saCons (sxC .non) (saCons (sxC .non) saNil))) saNil))))))))) (ssRet (sx2 vAdd (sxLc fzL (siRange1 (sxC (.int 8))) [2] (sgName 2) stYes t_l_things_1) (sxN vLst (saCons (sxCall 2 m_l_draw (saCons (sxVar 0) (saCons (sxC (.int 99)) saNil))) (saCons (sxN vTup (saCons (sxCall 2 m_l_draw (saCons (sxVar 0) (saCons (sxC (.int 9)) saNil))) (saCons (sxC (.str "x")) saNil))) (saCons (sxN vLst (saCons (sxCall 2 m_l_draw (saCons (sxVar 0) (saCons (sxC (.int 9)) saNil))) saNil)) saNil))))))))
def p_l_things : SO → List PV → RR (PV × SO) := objF (bodyF 3 t_l_things)
def m_l_things : Fs := liftO p_l_things
def t_l_pairs : Ss := (ssSeq (ssSet 1 (sxN vNew (saCons (sxN vTup (saCons (sxMkX "BadLot" "place" (sxVar 0)) (saCons (sxMkX "BadLot" "place" (sxVar 0)) saNil))) (saCons (sxN vTup (saCons (sxMkX "BadRun" "place" (sxVar 0)) (saCons (sxMkX "BadRun" "place" (sxVar 0)) saNil))) saNil)))) (ssSeq (ssExpr (sxMt isL vAppend (sxVar 1) (saCons (sxN vTup (saCons (sxMkX "BadLevels" "value" (sxVar 0)) (saCons (sxMkX "BadLevels" "value" (sxVar 0)) saNil))) saNil))) (ssSeq (ssExpr (sxMt isL vAppend (sxVar 1) (saCons (sxN vTup (saCons (sxMkX "BadDeed" "value" (sxVar 0)) (saCons (sxMkX "BadDeed" "value" (sxVar 0)) saNil))) saNil))) (ssSeq (ssExpr (sxMt isL vAppend (sxVar 1) (saCons (sxN vTup (saCons (sxMkX "BadSplit" "value" (sxVar 0)) (saCons (sxMkX "BadSplit" "value" (sxVar 0)) saNil))) saNil))) (ssSeq (ssExpr (sxMt isL vAppend (sxVar 1) (saCons (sxN vTup (saCons (sxMkX "BadFirm" "value" (sxVar 0)) (saCons (sxMkX "BadFirm" "value" (sxVar 0)) saNil))) saNil))) (ssSeq (ssExpr (sxMt isL vAppend (sxVar 1) (saCons (sxN vTup (saCons (sxMkX "BadSeen" "value" (sxVar 0)) (saCons (sxMkX "BadSeen" "value" (sxVar 0)) saNil))) saNil))) (ssRet (sx2 vAdd (sxVar 1) (sxN vLst (saCons (sxN vTup (saCons (sxMkX "BadPaper" "word" (sxVar 0)) (saCons (sxMkX "BadPaper" "word" (sxVar 0)) saNil))) (saCons (sxN vTup (saCons (sxMkX "TooGreat" "most" (sxVar 0)) (saCons (sxMkX "TooGreat" "most" (sxVar 0)) saNil))) saNil)))))))))))
def m_l_pairs : Fs := bodyF 2 t_l_pairs
def t_l_field : Ss := (ssSeq (ssIf (stB (sx2 vLt (sxVar 0) (sxC (.int 2)))) (ssRet (sxFld (["BadLot", "BadLevels", "BadRun", "BadDeed", "BadSplit", "BadFirm", "BadSeen", "BadPaper", "TooGreat", "LevelError"] : List Str) "place" (sxVar 1))) ssNil) (ssSeq (ssIf (stB (sx2 vLt (sxVar 0) (sxC (.int 7)))) (ssRet (sxFld (["BadLot", "BadLevels", "BadRun", "BadDeed", "BadSplit", "BadFirm", "BadSeen", "BadPaper", "TooGreat", "LevelError"] : List Str) "value" (sxVar 1))) ssNil) (ssRet (sxIf (stB (sx2 vEq (sxVar 0) (sxC (.int 7)))) (sxFld (["BadLot", "BadLevels", "BadRun", "BadDeed", "BadSplit", "BadFirm", "BadSeen", "BadPaper", "TooGreat", "LevelError"] : List Str) "word" (sxVar 1)) (sxFld (["BadLot", "BadLevels", "BadRun", "BadDeed", "BadSplit", "BadFirm", "BadSeen", "BadPaper", "TooGreat", "LevelError"] : List Str) "most" (sxVar 1))))))
def m_l_field : Fs := bodyF 2 t_l_field
def t_l_marks_of : Ss := (ssSeq (ssSet 1 (sxN vLst (saCons (sxIsX (subOf ([("BadLot", ["BadLot", "LevelError"]), ("BadLevels", ["BadLevels", "LevelError"]), ("BadRun", ["BadRun", "LevelError"]), ("BadDeed", ["BadDeed", "LevelError"]), ("BadSplit", ["BadSplit", "LevelError"]), ("BadFirm", ["BadFirm", "LevelError"]), ("BadSeen", ["BadSeen", "LevelError"]), ("BadPaper", ["BadPaper", "LevelError"]), ("TooGreat", ["TooGreat"]), ("LevelError", ["LevelError"])] : List (Str × List Str)) "BadLot") (sxVar 0)) (saCons (sxIsX (subOf ([("BadLot", ["BadLot", "LevelError"]), ("BadLevels", ["BadLevels", "LevelError"]), ("BadRun", ["BadRun", "LevelError"]), ("BadDeed", ["BadDeed", "LevelError"]), ("BadSplit", ["BadSplit", "LevelError"]), ("BadFirm", ["BadFirm", "LevelError"]), ("BadSeen", ["BadSeen", "LevelError"]), ("BadPaper", ["BadPaper", "LevelError"]), ("TooGreat", ["TooGreat"]), ("LevelError", ["LevelError"])] : List (Str × List Str)) "BadRun") (sxVar 0)) (saCons (sxIsX (subOf ([("BadLot", ["BadLot", "LevelError"]), ("BadLevels", ["BadLevels", "LevelError"]), ("BadRun", ["BadRun", "LevelError"]), ("BadDeed", ["BadDeed", "LevelError"]), ("BadSplit", ["BadSplit", "LevelError"]), ("BadFirm", ["BadFirm", "LevelError"]), ("BadSeen", ["BadSeen", "LevelError"]), ("BadPaper", ["BadPaper", "LevelError"]), ("TooGreat", ["TooGreat"]), ("LevelError", ["LevelError"])] : List (Str × List Str)) "BadLevels") (sxVar 0)) saNil))))) (ssSeq (ssSet 1 (sx2 vAdd (sxVar 1) (sxN vLst (saCons (sxIsX (subOf ([("BadLot", ["BadLot", "LevelError"]), ("BadLevels", ["BadLevels", "LevelError"]), ("BadRun", ["BadRun", "LevelError"]), ("BadDeed", ["BadDeed", "LevelError"]), ("BadSplit", ["BadSplit", "LevelError"]), ("BadFirm", ["BadFirm", "LevelError"]), ("BadSeen", ["BadSeen", "LevelError"]), ("BadPaper", ["BadPaper", "LevelError"]), ("TooGreat", ["TooGreat"]), ("LevelError", ["LevelError"])] : List (Str × List Str)) "BadDeed") (sxVar 0)) (saCons (sxIsX (subOf ([("BadLot", ["BadLot", "LevelError"]), ("BadLevels", ["BadLevels", "LevelError"]), ("BadRun", ["BadRun", "LevelError"]), ("BadDeed", ["BadDeed", "LevelError"]), ("BadSplit", ["BadSplit", "LevelError"]), ("BadFirm", ["BadFirm", "LevelError"]), ("BadSeen", ["BadSeen", "LevelError"]), ("BadPaper", ["BadPaper", "LevelError"]), ("TooGreat", ["TooGreat"]), ("LevelError", ["LevelError"])] : List (Str × List Str)) "BadSplit") (sxVar 0)) (saCons (sxIsX (subOf ([("BadLot", ["BadLot", "LevelError"]), ("BadLevels", ["BadLevels", "LevelError"]), ("BadRun", ["BadRun", "LevelError"]), ("BadDeed", ["BadDeed", "LevelError"]), ("BadSplit", ["BadSplit", "LevelError"]), ("BadFirm", ["BadFirm", "LevelError"]), ("BadSeen", ["BadSeen", "LevelError"]), ("BadPaper", ["BadPaper", "LevelError"]), ("TooGreat", ["TooGreat"]), ("LevelError", ["LevelError"])] : List (Str × List Str)) "BadFirm") (sxVar 0)) saNil)))))) (ssRet (sx2 vAdd (sxVar 1) (sxN vLst (saCons (sxIsX (subOf ([("BadLot", ["BadLot", "LevelError"]), ("BadLevels", ["BadLevels", "LevelError"]), ("BadRun", ["BadRun", "LevelError"]), ("BadDeed", ["BadDeed", "LevelError"]), ("BadSplit", ["BadSplit", "LevelError"]), ("BadFirm", ["BadFirm", "LevelError"]), ("BadSeen", ["BadSeen", "LevelError"]), ("BadPaper", ["BadPaper", "LevelError"]), ("TooGreat", ["TooGreat"]), ("LevelError", ["LevelError"])] : List (Str × List Str)) "BadSeen") (sxVar 0)) (saCons (sxIsX (subOf ([("BadLot", ["BadLot", "LevelError"]), ("BadLevels", ["BadLevels", "LevelError"]), ("BadRun", ["BadRun", "LevelError"]), ("BadDeed", ["BadDeed", "LevelError"]), ("BadSplit", ["BadSplit", "LevelError"]), ("BadFirm", ["BadFirm", "LevelError"]), ("BadSeen", ["BadSeen", "LevelError"]), ("BadPaper", ["BadPaper", "LevelError"]), ("TooGreat", ["TooGreat"]), ("LevelError", ["LevelError"])] : List (Str × List Str)) "BadPaper") (sxVar 0)) (saCons (sxIsX (subOf ([("BadLot", ["BadLot", "LevelError"]), ("BadLevels", ["BadLevels", "LevelError"]), ("BadRun", ["BadRun", "LevelError"]), ("BadDeed", ["BadDeed", "LevelError"]), ("BadSplit", ["BadSplit", "LevelError"]), ("BadFirm", ["BadFirm", "LevelError"]), ("BadSeen", ["BadSeen", "LevelError"]), ("BadPaper", ["BadPaper", "LevelError"]), ("TooGreat", ["TooGreat"]), ("LevelError", ["LevelError"])] : List (Str × List Str)) "TooGreat") (sxVar 0)) saNil))))))))
def m_l_marks_of : Fs := bodyF 2 t_l_marks_of
def t_l_above : Ss := (ssSeq (ssSet 1 (sxN vLst (saCons (sxIsX (subOf ([("BadLot", ["BadLot", "LevelError"]), ("BadLevels", ["BadLevels", "LevelError"]), ("BadRun", ["BadRun", "LevelError"]), ("BadDeed", ["BadDeed", "LevelError"]), ("BadSplit", ["BadSplit", "LevelError"]), ("BadFirm", ["BadFirm", "LevelError"]), ("BadSeen", ["BadSeen", "LevelError"]), ("BadPaper", ["BadPaper", "LevelError"]), ("TooGreat", ["TooGreat"]), ("LevelError", ["LevelError"])] : List (Str × List Str)) "LevelError") (sxVar 0)) (saCons (sxIsX (subOf ([("BadLot", ["ValueError"]), ("BadLevels", ["ValueError"]), ("BadRun", ["ValueError"]), ("BadDeed", ["ValueError"]), ("BadSplit", ["ValueError"]), ("BadFirm", ["ValueError"]), ("BadSeen", ["ValueError"]), ("BadPaper", ["ValueError"]), ("TooGreat", ["OverflowError"]), ("LevelError", ["ValueError"])] : List (Str × List Str)) "ValueError") (sxVar 0)) (saCons (sxIsX (subOf ([("BadLot", ["ValueError"]), ("BadLevels", ["ValueError"]), ("BadRun", ["ValueError"]), ("BadDeed", ["ValueError"]), ("BadSplit", ["ValueError"]), ("BadFirm", ["ValueError"]), ("BadSeen", ["ValueError"]), ("BadPaper", ["ValueError"]), ("TooGreat", ["OverflowError"]), ("LevelError", ["ValueError"])] : List (Str × List Str)) "OverflowError") (sxVar 0)) saNil))))) (ssSeq (ssSet 1 (sx2 vAdd (sxVar 1) (sxN vLst (saCons (sxIsX (subOf ([("BadLot", ["ValueError"]), ("BadLevels", ["ValueError"]), ("BadRun", ["ValueError"]), ("BadDeed", ["ValueError"]), ("BadSplit", ["ValueError"]), ("BadFirm", ["ValueError"]), ("BadSeen", ["ValueError"]), ("BadPaper", ["ValueError"]), ("TooGreat", ["OverflowError"]), ("LevelError", ["ValueError"])] : List (Str × List Str)) "LookupError") (sxVar 0)) (saCons (sxIsX (subOf ([("BadLot", ["ValueError"]), ("BadLevels", ["ValueError"]), ("BadRun", ["ValueError"]), ("BadDeed", ["ValueError"]), ("BadSplit", ["ValueError"]), ("BadFirm", ["ValueError"]), ("BadSeen", ["ValueError"]), ("BadPaper", ["ValueError"]), ("TooGreat", ["OverflowError"]), ("LevelError", ["ValueError"])] : List (Str × List Str)) "TypeError") (sxVar 0)) (saCons (sxIsX (subOf ([("BadLot", ["ValueError"]), ("BadLevels", ["ValueError"]), ("BadRun", ["ValueError"]), ("BadDeed", ["ValueError"]), ("BadSplit", ["ValueError"]), ("BadFirm", ["ValueError"]), ("BadSeen", ["ValueError"]), ("BadPaper", ["ValueError"]), ("TooGreat", ["OverflowError"]), ("LevelError", ["ValueError"])] : List (Str × List Str)) "RuntimeError") (sxVar 0)) saNil)))))) (ssRet (sxVar 1))))
def m_l_above : Fs := bodyF 2 t_l_above
def t_l_made_right_1 : Sx := (sx2 vEq (sxVar 6) (sxVar 2))
def t_l_made_right_2 : Ss := (ssEnd [5] (ssSeq (ssIf (stOr (stB (sx2 vNeS (sxN vRepr (saCons (sxCall 2 m_l_field (saCons (sxVar 2) (saCons (sxVar 5) saNil))) saNil)) (sxVar 1))) (stB (sx2 vNeS (sxN vRepr (saCons (sxCall 2 m_l_field (saCons (sxVar 2) (saCons (sxVar 5) saNil))) saNil)) (sxVar 1)))) (ssRet (sxC (.bl false))) ssNil) (ssIf (stOr (stB (sx2 vNe (sxCall 1 m_l_marks_of (saCons (sxVar 5) saNil)) (sxLc fzL (siRange1 (sxC (.int 9))) [6] (sgName 6) stYes t_l_made_right_1))) (stB (sx2 vNe (sxCall 1 m_l_above (saCons (sxVar 5) saNil)) (sx2 vAdd (sxVar 4) (sx2 vMulT (sxN vLst (saCons (sxC (.bl false)) saNil)) (sxC (.int 3))))))) (ssRet (sxC (.bl false))) ssNil)))
def t_l_made_right_3 : Ss := (ssEnd [2, 3, 4, 5] (ssSeq (ssSet 4 (sxIf (stB (sx2 vLt (sxVar 2) (sxC (.int 8)))) (sxN vLst (saCons (sxC (.bl true)) (saCons (sxC (.bl true)) (saCons (sxC (.bl false)) saNil)))) (sxN vLst (saCons (sxC (.bl false)) (saCons (sxC (.bl false)) (saCons (sxC (.bl true)) saNil)))))) (ssWp [5] (ssFor (siSeq (sxVar 3)) (sgName 5) t_l_made_right_2))))
def t_l_made_right : Ss := (ssSeq (ssSet 1 (sxN vRepr (saCons (sxVar 0) saNil))) (ssSeq (ssWp [2, 3, 4, 5] (ssFor (siEnum (sxCall 1 m_l_pairs (saCons (sxVar 0) saNil))) (sgTup 2 (sgCons (sgName 2) (sgCons (sgName 3) sgNil))) t_l_made_right_3)) (ssRet (sx2 vEqS (sxN vRepr (saCons (sxVar 0) saNil)) (sxVar 1)))))
def p_l_made_right : List PV → RR PV := pureF (bodyF 7 t_l_made_right)
def m_l_made_right : Fs := liftP p_l_made_right
def t_l_thrown : Ss := (ssSeq (ssSet 1 (sxN vNew saNil)) (ssSeq (ssTry (takers ([("BadLot", ["BadLot", "LevelError"]), ("BadLevels", ["BadLevels", "LevelError"]), ("BadRun", ["BadRun", "LevelError"]), ("BadDeed", ["BadDeed", "LevelError"]), ("BadSplit", ["BadSplit", "LevelError"]), ("BadFirm", ["BadFirm", "LevelError"]), ("BadSeen", ["BadSeen", "LevelError"]), ("BadPaper", ["BadPaper", "LevelError"]), ("TooGreat", ["TooGreat"]), ("LevelError", ["LevelError"])] : List (Str × List Str)) ["LevelError"]) 2 (ssRaise "BadLevels" "value" (sxVar 0)) (ssExpr (sxMt isL vAppend (sxVar 1) (saCons (sxN vLst (saCons (sx2 vItem (sxCall 1 (okF m_l_marks_of) (saCons (sxVar 2) saNil)) (sxC (.int 2))) (saCons (sxN vRepr (saCons (sxFld (["BadLot", "BadLevels", "BadRun", "BadDeed", "BadSplit", "BadFirm", "BadSeen", "BadPaper", "TooGreat", "LevelError"] : List Str) "value" (sxVar 2)) saNil)) saNil))) saNil)))) (ssSeq (ssTry (takers ([("BadLot", ["BadLot", "LevelError"]), ("BadLevels", ["BadLevels", "LevelError"]), ("BadRun", ["BadRun", "LevelError"]), ("BadDeed", ["BadDeed", "LevelError"]), ("BadSplit", ["BadSplit", "LevelError"]), ("BadFirm", ["BadFirm", "LevelError"]), ("BadSeen", ["BadSeen", "LevelError"]), ("BadPaper", ["BadPaper", "LevelError"]), ("TooGreat", ["TooGreat"]), ("LevelError", ["LevelError"])] : List (Str × List Str)) ["LevelError"]) 2 (ssRaise "BadLot" "place" (sxVar 0)) (ssExpr (sxMt isL vAppend (sxVar 1) (saCons (sxN vLst (saCons (sx2 vItem (sxCall 1 (okF m_l_marks_of) (saCons (sxVar 2) saNil)) (sxC (.int 0))) (saCons (sxN vRepr (saCons (sxFld (["BadLot", "BadLevels", "BadRun", "BadDeed", "BadSplit", "BadFirm", "BadSeen", "BadPaper", "TooGreat", "LevelError"] : List Str) "place" (sxVar 2)) saNil)) saNil))) saNil)))) (ssSeq (ssTry (takers ([("BadLot", ["BadLot", "LevelError"]), ("BadLevels", ["BadLevels", "LevelError"]), ("BadRun", ["BadRun", "LevelError"]), ("BadDeed", ["BadDeed", "LevelError"]), ("BadSplit", ["BadSplit", "LevelError"]), ("BadFirm", ["BadFirm", "LevelError"]), ("BadSeen", ["BadSeen", "LevelError"]), ("BadPaper", ["BadPaper", "LevelError"]), ("TooGreat", ["TooGreat"]), ("LevelError", ["LevelError"])] : List (Str × List Str)) ["BadRun"]) 2 (ssRaise "BadRun" "place" (sxVar 0)) (ssExpr (sxMt isL vAppend (sxVar 1) (saCons (sxN vLst (saCons (sx2 vItem (sxCall 1 (okF m_l_marks_of) (saCons (sxVar 2) saNil)) (sxC (.int 1))) (saCons (sxN vRepr (saCons (sxFld (["BadLot", "BadLevels", "BadRun", "BadDeed", "BadSplit", "BadFirm", "BadSeen", "BadPaper", "TooGreat", "LevelError"] : List Str) "place" (sxVar 2)) saNil)) saNil))) saNil)))) (ssSeq (ssTry (takers ([("BadLot", ["BadLot", "LevelError"]), ("BadLevels", ["BadLevels", "LevelError"]), ("BadRun", ["BadRun", "LevelError"]), ("BadDeed", ["BadDeed", "LevelError"]), ("BadSplit", ["BadSplit", "LevelError"]), ("BadFirm", ["BadFirm", "LevelError"]), ("BadSeen", ["BadSeen", "LevelError"]), ("BadPaper", ["BadPaper", "LevelError"]), ("TooGreat", ["TooGreat"]), ("LevelError", ["LevelError"])] : List (Str × List Str)) ["LevelError"]) 2 (ssRaise "BadPaper" "word" (sxVar 0)) (ssExpr (sxMt isL vAppend (sxVar 1) (saCons (sxN vLst (saCons (sx2 vItem (sxCall 1 (okF m_l_marks_of) (saCons (sxVar 2) saNil)) (sxC (.int 7))) (saCons (sxN vRepr (saCons (sxFld (["BadLot", "BadLevels", "BadRun", "BadDeed", "BadSplit", "BadFirm", "BadSeen", "BadPaper", "TooGreat", "LevelError"] : List Str) "word" (sxVar 2)) saNil)) saNil))) saNil)))) (ssSeq (ssTry (takers ([("BadLot", ["BadLot", "LevelError"]), ("BadLevels", ["BadLevels", "LevelError"]), ("BadRun", ["BadRun", "LevelError"]), ("BadDeed", ["BadDeed", "LevelError"]), ("BadSplit", ["BadSplit", "LevelError"]), ("BadFirm", ["BadFirm", "LevelError"]), ("BadSeen", ["BadSeen", "LevelError"]), ("BadPaper", ["BadPaper", "LevelError"]), ("TooGreat", ["TooGreat"]), ("LevelError", ["LevelError"])] : List (Str × List Str)) ["TooGreat"]) 2 (ssRaise "TooGreat" "most" (sxVar 0)) (ssExpr (sxMt isL vAppend (sxVar 1) (saCons (sxN vLst (saCons (sx2 vItem (sxCall 1 (okF m_l_marks_of) (saCons (sxVar 2) saNil)) (sxC (.int 8))) (saCons (sxN vRepr (saCons (sxFld (["BadLot", "BadLevels", "BadRun", "BadDeed", "BadSplit", "BadFirm", "BadSeen", "BadPaper", "TooGreat", "LevelError"] : List Str) "most" (sxVar 2)) saNil)) saNil))) saNil)))) (ssFrz 1 (ssRet (sxVar 1)))))))))
def p_l_thrown : List PV → RR PV := pureF (bodyF 3 t_l_thrown)
def m_l_thrown : Fs := liftP p_l_thrown
def t_law_1 : Ss := (ssEnd [3] (ssIf (stOr (stNot (stB (sxCall 1 m_l_made_right (saCons (sxVar 3) saNil)))) (stB (sx2 vNe (sxCall 1 m_l_thrown (saCons (sxVar 3) saNil)) (sx2 vMulT (sxN vLst (saCons (sxN vLst (saCons (sxC (.bl true)) (saCons (sxN vRepr (saCons (sxVar 3) saNil)) saNil))) saNil)) (sxC (.int 5)))))) (ssRet (sxC (.bl false))) ssNil))
def t_law_2 : Ss := (ssLoc [1, 2, 3] (ssSeq (ssSet 2 (sxCall 2 m_l_begun (saCons (sxVar 0) (saCons (sxVar 1) saNil)))) (ssWp [3] (ssFor (siSeq (sxCall 1 m_l_things (saCons (sxVar 2) saNil))) (sgName 3) t_law_1))))
def t_law : Ss := (ssSeq (ssWp [1, 2, 3] (ssFor (siRange1 (sx2 vAdd (sxC (.int 2)) (sxN vMin2 (saCons (sxN vLen (saCons (sxVar 0) saNil)) (saCons (sxC (.int 6)) saNil))))) (sgName 1) t_law_2)) (ssSeq (ssSet 4 (sxMk0 "LevelError" (sxC (.str "no levels")))) (ssSeq (ssIf (stOr (stB (sx2 vNe (sxCall 1 m_l_marks_of (saCons (sxVar 4) saNil)) (sx2 vMulT (sxN vLst (saCons (sxC (.bl false)) saNil)) (sxC (.int 9))))) (stB (sx2 vNe (sxCall 1 m_l_above (saCons (sxVar 4) saNil)) (sx2 vAdd (sxN vLst (saCons (sxC (.bl true)) (saCons (sxC (.bl true)) saNil))) (sx2 vMulT (sxN vLst (saCons (sxC (.bl false)) saNil)) (sxC (.int 4))))))) (ssRet (sxC (.bl false))) ssNil) (ssSeq (ssPar 5 6 (saCons (sxMkX "BadLot" "place" (sxN vTup (saCons (sxC (.int 0)) (saCons (sxC (.int 1)) saNil)))) (saCons (sxMkX "BadLot" "place" (sxN vTup (saCons (sxC (.int 0)) (saCons (sxC (.int 1)) saNil)))) saNil))) (ssRet (sx2 vEqS (sxN vRepr (saCons (sxN vLst (saCons (sxFld (["BadLot", "BadLevels", "BadRun", "BadDeed", "BadSplit", "BadFirm", "BadSeen", "BadPaper", "TooGreat", "LevelError"] : List Str) "place" (sxVar 5)) (saCons (sxFld (["BadLot", "BadLevels", "BadRun", "BadDeed", "BadSplit", "BadFirm", "BadSeen", "BadPaper", "TooGreat", "LevelError"] : List Str) "place" (sxVar 6)) (saCons (sxFld (["BadLot", "BadLevels", "BadRun", "BadDeed", "BadSplit", "BadFirm", "BadSeen", "BadPaper", "TooGreat", "LevelError"] : List Str) "place" (sxMkX "BadLot" "place" (sxC .non))) saNil)))) saNil)) (sxC (.str "[(0, 1), (0, 1), None]"))))))))
def m_law : Fs := bodyF 7 t_law
end
end K25
end
section
namespace K25
open PySem PySem.Spec PyProof.Rows L2 MX MS
section
variable {sp : Sl} {S : Sto} {y : PV} {r : Str}
theorem rp (hR : ∀ S, vRepr [y] S = some (.str r, S)) {t : Sx} (h : t sp S = .ok y S) : sxN vRepr (saCons t saNil) sp S = .ok (.str r) S := by
  simp only [s_sxN, s_saCons, s_saNil, h, Out.bind, hR, Out.of]
theorem ne0 {ta tb : Sx} (ha : ta sp S = .ok (.str r) S) (hb : tb sp S = .ok (.str r) S) : stB (sx2 vNeS ta tb) sp S = .ok false S := by
  have e : vNeS (.str r) (.str r) S = some (.bl false, S) := by simp [vNeS]
  simp only [s_stB, s_sx2, ha, hb, Out.bind, e, Out.of]
theorem or0 {t u : St'} (ht : t sp S = .ok false S) (hu : u sp S = .ok false S) : stOr t u sp S = .ok false S := by
  simp only [s_stOr, ht, hu, Out.bind]; rfl
theorem if0 {c : St'} {t u : Ss} (h : c sp S = .ok false S) : ssIf c t u sp S = u sp S := by
  simp only [s_ssIf, h, bindS]; rfl
theorem seqN {t u : Ss} {sp1 : Sl} (h : t sp S = .nx sp1 S) : ssSeq t u sp S = u sp1 S := by
  simp only [s_ssSeq, h]
theorem seqX {t u : Ss} {sp1 : Sl} {S1 : Sto} (h : t sp S = .nx sp1 S1) : ssSeq t u sp S = u sp1 S1 := by
  simp only [s_ssSeq, h]
theorem wp_eq {vs : List Nat} {t : Ss} (h : wipeP sp vs = sp) : ssWp vs t sp S = t sp S := by
  unfold ssWp; rw [h]
theorem for_it {ti : Si} {t : Sg} {b : Ss} {xs : List PV} {S1 : Sto} (h : ti sp S = .ok (.items xs) S1) : ssFor ti t b sp S = forL t b xs sp S1 := by
  unfold ssFor; rw [h]
theorem forL_nx {t : Sg} {b : Ss} {x : PV} {xs : List PV} {sp1 sp2 : Sl} {S2 : Sto} (h1 : t x sp S = some sp1) (h2 : b sp1 S = .nx sp2 S2) : forL t b (x :: xs) sp S = forL t b xs sp2 S2 := by
  rw [forL, h1]; simp only [h2]
theorem two_ok {o : V2} {ta tb : Sx} {u v w : PV} (ha : ta sp S = .ok u S) (hb : tb sp S = .ok v S) (e : o u v S = some (w, S)) : sx2 o ta tb sp S = .ok w S := by
  simp only [s_sx2, ha, hb, Out.bind, e, Out.of]
theorem ret_ok {te : Sx} {v : PV} (h : te sp S = .ok v S) : ssRet te sp S = .rt v S := by
  simp only [s_ssRet, h, bindS]
theorem app_ok {A : Sx} {sp : Sl} {xs : List PV} {v : PV} {T : Sto} (h1 : sp[1]? = some (some (.ref 0))) (hl : xs.length < sizeLine) (hA : A sp (.lst xs :: T) = .ok v (.lst xs :: T)) : ssExpr (sxMt isL vAppend (sxVar 1) (saCons A saNil)) sp (.lst xs :: T) = .nx sp (.lst (xs ++ [v]) :: T) := by
  have e1 : sxVar 1 sp (.lst xs :: T) = .ok (.ref 0) (.lst xs :: T) := by unfold sxVar; rw [h1]
  have e2 : vAppend (.ref 0) [v] (.lst xs :: T) = some (.non, .lst (xs ++ [v]) :: T) := by
    unfold vAppend; simp only [List.getElem?_cons_zero, hl, if_true]; rfl
  have e3 : isL (.lst xs :: T) (.ref 0) = true := rfl
  simp only [s_ssExpr, sxMt, e1, Out.bind, e3, if_true, s_saCons, s_saNil, hA, e2, Out.of, bindS]
theorem lst_ok {A B : Sx} {u v : PV} (hA : A sp S = .ok u S) (hB : B sp S = .ok v S) : sxN vLst (saCons A (saCons B saNil)) sp S = .ok (.lst [u, v]) S := by
  simp only [s_sxN, s_saCons, s_saNil, hA, hB, Out.bind]; rfl
theorem lst1_ok {A : Sx} {u : PV} (hA : A sp S = .ok u S) : sxN vLst (saCons A saNil) sp S = .ok (.lst [u]) S := by
  simp only [s_sxN, s_saCons, s_saNil, hA, Out.bind]; rfl
theorem try_ok {cs : List Str} {c f : Str} {u : Ss} {sp2 : Sl} {S2 : Sto} (h0 : sp[0]? = some (some y)) (hc : c ∈ cs) (h : u (sp.set 2 (some (.ref S.length))) (S ++ [.exc c [(f, y)]]) = .nx sp2 S2) :
    ssTry cs 2 (ssRaise c f (sxVar 0)) u sp S = .nx (sp2.set 2 none) S2 := by
  have e0 : ssRaise c f (sxVar 0) sp S = .exc ⟨c, [(f, y)]⟩ sp S := by
    have e1 : sxVar 0 sp S = .ok y S := by unfold sxVar; rw [h0]
    simp only [ssRaise, e1, bindS]
  unfold ssTry
  rw [e0]
  simp only [hc, if_true, h, unsetS]
end
def stoP (y : PV) : Sto := [.exc "BadLot" [("place", y)], .exc "BadLot" [("place", y)], .exc "BadRun" [("place", y)], .exc "BadRun" [("place", y)], .lst [.tup [.ref 0, .ref 1], .tup [.ref 2, .ref 3], .tup [.ref 5, .ref 6], .tup [.ref 7, .ref 8], .tup [.ref 9, .ref 10], .tup [.ref 11, .ref 12], .tup [.ref 13, .ref 14]], .exc "BadLevels" [("value", y)], .exc "BadLevels" [("value", y)], .exc "BadDeed" [("value", y)], .exc "BadDeed" [("value", y)], .exc "BadSplit" [("value", y)], .exc "BadSplit" [("value", y)], .exc "BadFirm" [("value", y)], .exc "BadFirm" [("value", y)], .exc "BadSeen" [("value", y)], .exc "BadSeen" [("value", y)], .exc "BadPaper" [("word", y)], .exc "BadPaper" [("word", y)], .exc "TooGreat" [("most", y)], .exc "TooGreat" [("most", y)]]
theorem fld_0 (y : PV) (r : Str) : (sxCall 2 m_l_field (saCons (sxVar 2) (saCons (sxVar 5) saNil))) [some y, some (.str r), some (.int 0), some (.tup [.ref 0, .ref 1]), some (.lst [.bl true, .bl true, .bl false]), some (.ref 0), none] (stoP y) = .ok y (stoP y) := by kernel_rfl
theorem two_0 (y : PV) (r : Str) : (stOr (stB (sx2 vNe (sxCall 1 m_l_marks_of (saCons (sxVar 5) saNil)) (sxLc fzL (siRange1 (sxC (.int 9))) [6] (sgName 6) stYes t_l_made_right_1))) (stB (sx2 vNe (sxCall 1 m_l_above (saCons (sxVar 5) saNil)) (sx2 vAdd (sxVar 4) (sx2 vMulT (sxN vLst (saCons (sxC (.bl false)) saNil)) (sxC (.int 3))))))) [some y, some (.str r), some (.int 0), some (.tup [.ref 0, .ref 1]), some (.lst [.bl true, .bl true, .bl false]), some (.ref 0), none] (stoP y) = .ok false (stoP y) := by kernel_rfl
theorem turn_0 (y : PV) (r : Str) (hR : ∀ S, vRepr [y] S = some (.str r, S)) : t_l_made_right_2 [some y, some (.str r), some (.int 0), some (.tup [.ref 0, .ref 1]), some (.lst [.bl true, .bl true, .bl false]), some (.ref 0), none] (stoP y) = .nx [some y, some (.str r), some (.int 0), some (.tup [.ref 0, .ref 1]), some (.lst [.bl true, .bl true, .bl false]), none, none] (stoP y) := by
  have h1 := ne0 (tb := sxVar 1) (rp hR (fld_0 y r)) rfl
  unfold t_l_made_right_2 ssEnd
  rw [seqN (sp1 := [some y, some (.str r), some (.int 0), some (.tup [.ref 0, .ref 1]), some (.lst [.bl true, .bl true, .bl false]), some (.ref 0), none]) (by rw [if0 (or0 h1 h1)]; rfl), if0 (two_0 y r)]
  rfl
theorem fld_1 (y : PV) (r : Str) : (sxCall 2 m_l_field (saCons (sxVar 2) (saCons (sxVar 5) saNil))) [some y, some (.str r), some (.int 0), some (.tup [.ref 0, .ref 1]), some (.lst [.bl true, .bl true, .bl false]), some (.ref 1), none] (stoP y) = .ok y (stoP y) := by kernel_rfl
theorem two_1 (y : PV) (r : Str) : (stOr (stB (sx2 vNe (sxCall 1 m_l_marks_of (saCons (sxVar 5) saNil)) (sxLc fzL (siRange1 (sxC (.int 9))) [6] (sgName 6) stYes t_l_made_right_1))) (stB (sx2 vNe (sxCall 1 m_l_above (saCons (sxVar 5) saNil)) (sx2 vAdd (sxVar 4) (sx2 vMulT (sxN vLst (saCons (sxC (.bl false)) saNil)) (sxC (.int 3))))))) [some y, some (.str r), some (.int 0), some (.tup [.ref 0, .ref 1]), some (.lst [.bl true, .bl true, .bl false]), some (.ref 1), none] (stoP y) = .ok false (stoP y) := by kernel_rfl
theorem turn_1 (y : PV) (r : Str) (hR : ∀ S, vRepr [y] S = some (.str r, S)) : t_l_made_right_2 [some y, some (.str r), some (.int 0), some (.tup [.ref 0, .ref 1]), some (.lst [.bl true, .bl true, .bl false]), some (.ref 1), none] (stoP y) = .nx [some y, some (.str r), some (.int 0), some (.tup [.ref 0, .ref 1]), some (.lst [.bl true, .bl true, .bl false]), none, none] (stoP y) := by
  have h1 := ne0 (tb := sxVar 1) (rp hR (fld_1 y r)) rfl
  unfold t_l_made_right_2 ssEnd
  rw [seqN (sp1 := [some y, some (.str r), some (.int 0), some (.tup [.ref 0, .ref 1]), some (.lst [.bl true, .bl true, .bl false]), some (.ref 1), none]) (by rw [if0 (or0 h1 h1)]; rfl), if0 (two_1 y r)]
  rfl
theorem row_0 (y : PV) (r : Str) (hR : ∀ S, vRepr [y] S = some (.str r, S)) : t_l_made_right_3 [some y, some (.str r), some (.int 0), some (.tup [.ref 0, .ref 1]), none, none, none] (stoP y) = .nx [some y, some (.str r), none, none, none, none, none] (stoP y) := by
  have h1 : forL (sgName 5) t_l_made_right_2 [.ref 0, .ref 1] [some y, some (.str r), some (.int 0), some (.tup [.ref 0, .ref 1]), some (.lst [.bl true, .bl true, .bl false]), none, none] (stoP y) = .nx [some y, some (.str r), some (.int 0), some (.tup [.ref 0, .ref 1]), some (.lst [.bl true, .bl true, .bl false]), none, none] (stoP y) := by
    unfold forL
    simp only [s_sgName, List.set_cons_succ, List.set_cons_zero, turn_0 y r hR]
    unfold forL
    simp only [s_sgName, List.set_cons_succ, List.set_cons_zero, turn_1 y r hR]
    unfold forL
    rfl
  unfold t_l_made_right_3 ssEnd
  rw [seqN (sp1 := [some y, some (.str r), some (.int 0), some (.tup [.ref 0, .ref 1]), some (.lst [.bl true, .bl true, .bl false]), none, none]) (by kernel_rfl)]
  have h2 : ssWp [5] (ssFor (siSeq (sxVar 3)) (sgName 5) t_l_made_right_2) [some y, some (.str r), some (.int 0), some (.tup [.ref 0, .ref 1]), some (.lst [.bl true, .bl true, .bl false]), none, none] (stoP y) = .nx [some y, some (.str r), some (.int 0), some (.tup [.ref 0, .ref 1]), some (.lst [.bl true, .bl true, .bl false]), none, none] (stoP y) := h1
  rw [h2]
  rfl
theorem fld_2 (y : PV) (r : Str) : (sxCall 2 m_l_field (saCons (sxVar 2) (saCons (sxVar 5) saNil))) [some y, some (.str r), some (.int 1), some (.tup [.ref 2, .ref 3]), some (.lst [.bl true, .bl true, .bl false]), some (.ref 2), none] (stoP y) = .ok y (stoP y) := by kernel_rfl
theorem two_2 (y : PV) (r : Str) : (stOr (stB (sx2 vNe (sxCall 1 m_l_marks_of (saCons (sxVar 5) saNil)) (sxLc fzL (siRange1 (sxC (.int 9))) [6] (sgName 6) stYes t_l_made_right_1))) (stB (sx2 vNe (sxCall 1 m_l_above (saCons (sxVar 5) saNil)) (sx2 vAdd (sxVar 4) (sx2 vMulT (sxN vLst (saCons (sxC (.bl false)) saNil)) (sxC (.int 3))))))) [some y, some (.str r), some (.int 1), some (.tup [.ref 2, .ref 3]), some (.lst [.bl true, .bl true, .bl false]), some (.ref 2), none] (stoP y) = .ok false (stoP y) := by kernel_rfl
theorem turn_2 (y : PV) (r : Str) (hR : ∀ S, vRepr [y] S = some (.str r, S)) : t_l_made_right_2 [some y, some (.str r), some (.int 1), some (.tup [.ref 2, .ref 3]), some (.lst [.bl true, .bl true, .bl false]), some (.ref 2), none] (stoP y) = .nx [some y, some (.str r), some (.int 1), some (.tup [.ref 2, .ref 3]), some (.lst [.bl true, .bl true, .bl false]), none, none] (stoP y) := by
  have h1 := ne0 (tb := sxVar 1) (rp hR (fld_2 y r)) rfl
  unfold t_l_made_right_2 ssEnd
  rw [seqN (sp1 := [some y, some (.str r), some (.int 1), some (.tup [.ref 2, .ref 3]), some (.lst [.bl true, .bl true, .bl false]), some (.ref 2), none]) (by rw [if0 (or0 h1 h1)]; rfl), if0 (two_2 y r)]
  rfl
theorem fld_3 (y : PV) (r : Str) : (sxCall 2 m_l_field (saCons (sxVar 2) (saCons (sxVar 5) saNil))) [some y, some (.str r), some (.int 1), some (.tup [.ref 2, .ref 3]), some (.lst [.bl true, .bl true, .bl false]), some (.ref 3), none] (stoP y) = .ok y (stoP y) := by kernel_rfl
theorem two_3 (y : PV) (r : Str) : (stOr (stB (sx2 vNe (sxCall 1 m_l_marks_of (saCons (sxVar 5) saNil)) (sxLc fzL (siRange1 (sxC (.int 9))) [6] (sgName 6) stYes t_l_made_right_1))) (stB (sx2 vNe (sxCall 1 m_l_above (saCons (sxVar 5) saNil)) (sx2 vAdd (sxVar 4) (sx2 vMulT (sxN vLst (saCons (sxC (.bl false)) saNil)) (sxC (.int 3))))))) [some y, some (.str r), some (.int 1), some (.tup [.ref 2, .ref 3]), some (.lst [.bl true, .bl true, .bl false]), some (.ref 3), none] (stoP y) = .ok false (stoP y) := by kernel_rfl
theorem turn_3 (y : PV) (r : Str) (hR : ∀ S, vRepr [y] S = some (.str r, S)) : t_l_made_right_2 [some y, some (.str r), some (.int 1), some (.tup [.ref 2, .ref 3]), some (.lst [.bl true, .bl true, .bl false]), some (.ref 3), none] (stoP y) = .nx [some y, some (.str r), some (.int 1), some (.tup [.ref 2, .ref 3]), some (.lst [.bl true, .bl true, .bl false]), none, none] (stoP y) := by
  have h1 := ne0 (tb := sxVar 1) (rp hR (fld_3 y r)) rfl
  unfold t_l_made_right_2 ssEnd
  rw [seqN (sp1 := [some y, some (.str r), some (.int 1), some (.tup [.ref 2, .ref 3]), some (.lst [.bl true, .bl true, .bl false]), some (.ref 3), none]) (by rw [if0 (or0 h1 h1)]; rfl), if0 (two_3 y r)]
  rfl
theorem row_1 (y : PV) (r : Str) (hR : ∀ S, vRepr [y] S = some (.str r, S)) : t_l_made_right_3 [some y, some (.str r), some (.int 1), some (.tup [.ref 2, .ref 3]), none, none, none] (stoP y) = .nx [some y, some (.str r), none, none, none, none, none] (stoP y) := by
  have h1 : forL (sgName 5) t_l_made_right_2 [.ref 2, .ref 3] [some y, some (.str r), some (.int 1), some (.tup [.ref 2, .ref 3]), some (.lst [.bl true, .bl true, .bl false]), none, none] (stoP y) = .nx [some y, some (.str r), some (.int 1), some (.tup [.ref 2, .ref 3]), some (.lst [.bl true, .bl true, .bl false]), none, none] (stoP y) := by
    unfold forL
    simp only [s_sgName, List.set_cons_succ, List.set_cons_zero, turn_2 y r hR]
    unfold forL
    simp only [s_sgName, List.set_cons_succ, List.set_cons_zero, turn_3 y r hR]
    unfold forL
    rfl
  unfold t_l_made_right_3 ssEnd
  rw [seqN (sp1 := [some y, some (.str r), some (.int 1), some (.tup [.ref 2, .ref 3]), some (.lst [.bl true, .bl true, .bl false]), none, none]) (by kernel_rfl)]
  have h2 : ssWp [5] (ssFor (siSeq (sxVar 3)) (sgName 5) t_l_made_right_2) [some y, some (.str r), some (.int 1), some (.tup [.ref 2, .ref 3]), some (.lst [.bl true, .bl true, .bl false]), none, none] (stoP y) = .nx [some y, some (.str r), some (.int 1), some (.tup [.ref 2, .ref 3]), some (.lst [.bl true, .bl true, .bl false]), none, none] (stoP y) := h1
  rw [h2]
  rfl
theorem fld_5 (y : PV) (r : Str) : (sxCall 2 m_l_field (saCons (sxVar 2) (saCons (sxVar 5) saNil))) [some y, some (.str r), some (.int 2), some (.tup [.ref 5, .ref 6]), some (.lst [.bl true, .bl true, .bl false]), some (.ref 5), none] (stoP y) = .ok y (stoP y) := by kernel_rfl
theorem two_5 (y : PV) (r : Str) : (stOr (stB (sx2 vNe (sxCall 1 m_l_marks_of (saCons (sxVar 5) saNil)) (sxLc fzL (siRange1 (sxC (.int 9))) [6] (sgName 6) stYes t_l_made_right_1))) (stB (sx2 vNe (sxCall 1 m_l_above (saCons (sxVar 5) saNil)) (sx2 vAdd (sxVar 4) (sx2 vMulT (sxN vLst (saCons (sxC (.bl false)) saNil)) (sxC (.int 3))))))) [some y, some (.str r), some (.int 2), some (.tup [.ref 5, .ref 6]), some (.lst [.bl true, .bl true, .bl false]), some (.ref 5), none] (stoP y) = .ok false (stoP y) := by kernel_rfl
theorem turn_5 (y : PV) (r : Str) (hR : ∀ S, vRepr [y] S = some (.str r, S)) : t_l_made_right_2 [some y, some (.str r), some (.int 2), some (.tup [.ref 5, .ref 6]), some (.lst [.bl true, .bl true, .bl false]), some (.ref 5), none] (stoP y) = .nx [some y, some (.str r), some (.int 2), some (.tup [.ref 5, .ref 6]), some (.lst [.bl true, .bl true, .bl false]), none, none] (stoP y) := by
  have h1 := ne0 (tb := sxVar 1) (rp hR (fld_5 y r)) rfl
  unfold t_l_made_right_2 ssEnd
  rw [seqN (sp1 := [some y, some (.str r), some (.int 2), some (.tup [.ref 5, .ref 6]), some (.lst [.bl true, .bl true, .bl false]), some (.ref 5), none]) (by rw [if0 (or0 h1 h1)]; rfl), if0 (two_5 y r)]
  rfl
theorem fld_6 (y : PV) (r : Str) : (sxCall 2 m_l_field (saCons (sxVar 2) (saCons (sxVar 5) saNil))) [some y, some (.str r), some (.int 2), some (.tup [.ref 5, .ref 6]), some (.lst [.bl true, .bl true, .bl false]), some (.ref 6), none] (stoP y) = .ok y (stoP y) := by kernel_rfl
theorem two_6 (y : PV) (r : Str) : (stOr (stB (sx2 vNe (sxCall 1 m_l_marks_of (saCons (sxVar 5) saNil)) (sxLc fzL (siRange1 (sxC (.int 9))) [6] (sgName 6) stYes t_l_made_right_1))) (stB (sx2 vNe (sxCall 1 m_l_above (saCons (sxVar 5) saNil)) (sx2 vAdd (sxVar 4) (sx2 vMulT (sxN vLst (saCons (sxC (.bl false)) saNil)) (sxC (.int 3))))))) [some y, some (.str r), some (.int 2), some (.tup [.ref 5, .ref 6]), some (.lst [.bl true, .bl true, .bl false]), some (.ref 6), none] (stoP y) = .ok false (stoP y) := by kernel_rfl
theorem turn_6 (y : PV) (r : Str) (hR : ∀ S, vRepr [y] S = some (.str r, S)) : t_l_made_right_2 [some y, some (.str r), some (.int 2), some (.tup [.ref 5, .ref 6]), some (.lst [.bl true, .bl true, .bl false]), some (.ref 6), none] (stoP y) = .nx [some y, some (.str r), some (.int 2), some (.tup [.ref 5, .ref 6]), some (.lst [.bl true, .bl true, .bl false]), none, none] (stoP y) := by
  have h1 := ne0 (tb := sxVar 1) (rp hR (fld_6 y r)) rfl
  unfold t_l_made_right_2 ssEnd
  rw [seqN (sp1 := [some y, some (.str r), some (.int 2), some (.tup [.ref 5, .ref 6]), some (.lst [.bl true, .bl true, .bl false]), some (.ref 6), none]) (by rw [if0 (or0 h1 h1)]; rfl), if0 (two_6 y r)]
  rfl
theorem row_2 (y : PV) (r : Str) (hR : ∀ S, vRepr [y] S = some (.str r, S)) : t_l_made_right_3 [some y, some (.str r), some (.int 2), some (.tup [.ref 5, .ref 6]), none, none, none] (stoP y) = .nx [some y, some (.str r), none, none, none, none, none] (stoP y) := by
  have h1 : forL (sgName 5) t_l_made_right_2 [.ref 5, .ref 6] [some y, some (.str r), some (.int 2), some (.tup [.ref 5, .ref 6]), some (.lst [.bl true, .bl true, .bl false]), none, none] (stoP y) = .nx [some y, some (.str r), some (.int 2), some (.tup [.ref 5, .ref 6]), some (.lst [.bl true, .bl true, .bl false]), none, none] (stoP y) := by
    unfold forL
    simp only [s_sgName, List.set_cons_succ, List.set_cons_zero, turn_5 y r hR]
    unfold forL
    simp only [s_sgName, List.set_cons_succ, List.set_cons_zero, turn_6 y r hR]
    unfold forL
    rfl
  unfold t_l_made_right_3 ssEnd
  rw [seqN (sp1 := [some y, some (.str r), some (.int 2), some (.tup [.ref 5, .ref 6]), some (.lst [.bl true, .bl true, .bl false]), none, none]) (by kernel_rfl)]
  have h2 : ssWp [5] (ssFor (siSeq (sxVar 3)) (sgName 5) t_l_made_right_2) [some y, some (.str r), some (.int 2), some (.tup [.ref 5, .ref 6]), some (.lst [.bl true, .bl true, .bl false]), none, none] (stoP y) = .nx [some y, some (.str r), some (.int 2), some (.tup [.ref 5, .ref 6]), some (.lst [.bl true, .bl true, .bl false]), none, none] (stoP y) := h1
  rw [h2]
  rfl
theorem fld_7 (y : PV) (r : Str) : (sxCall 2 m_l_field (saCons (sxVar 2) (saCons (sxVar 5) saNil))) [some y, some (.str r), some (.int 3), some (.tup [.ref 7, .ref 8]), some (.lst [.bl true, .bl true, .bl false]), some (.ref 7), none] (stoP y) = .ok y (stoP y) := by kernel_rfl
theorem two_7 (y : PV) (r : Str) : (stOr (stB (sx2 vNe (sxCall 1 m_l_marks_of (saCons (sxVar 5) saNil)) (sxLc fzL (siRange1 (sxC (.int 9))) [6] (sgName 6) stYes t_l_made_right_1))) (stB (sx2 vNe (sxCall 1 m_l_above (saCons (sxVar 5) saNil)) (sx2 vAdd (sxVar 4) (sx2 vMulT (sxN vLst (saCons (sxC (.bl false)) saNil)) (sxC (.int 3))))))) [some y, some (.str r), some (.int 3), some (.tup [.ref 7, .ref 8]), some (.lst [.bl true, .bl true, .bl false]), some (.ref 7), none] (stoP y) = .ok false (stoP y) := by kernel_rfl
theorem turn_7 (y : PV) (r : Str) (hR : ∀ S, vRepr [y] S = some (.str r, S)) : t_l_made_right_2 [some y, some (.str r), some (.int 3), some (.tup [.ref 7, .ref 8]), some (.lst [.bl true, .bl true, .bl false]), some (.ref 7), none] (stoP y) = .nx [some y, some (.str r), some (.int 3), some (.tup [.ref 7, .ref 8]), some (.lst [.bl true, .bl true, .bl false]), none, none] (stoP y) := by
  have h1 := ne0 (tb := sxVar 1) (rp hR (fld_7 y r)) rfl
  unfold t_l_made_right_2 ssEnd
  rw [seqN (sp1 := [some y, some (.str r), some (.int 3), some (.tup [.ref 7, .ref 8]), some (.lst [.bl true, .bl true, .bl false]), some (.ref 7), none]) (by rw [if0 (or0 h1 h1)]; rfl), if0 (two_7 y r)]
  rfl
theorem fld_8 (y : PV) (r : Str) : (sxCall 2 m_l_field (saCons (sxVar 2) (saCons (sxVar 5) saNil))) [some y, some (.str r), some (.int 3), some (.tup [.ref 7, .ref 8]), some (.lst [.bl true, .bl true, .bl false]), some (.ref 8), none] (stoP y) = .ok y (stoP y) := by kernel_rfl
theorem two_8 (y : PV) (r : Str) : (stOr (stB (sx2 vNe (sxCall 1 m_l_marks_of (saCons (sxVar 5) saNil)) (sxLc fzL (siRange1 (sxC (.int 9))) [6] (sgName 6) stYes t_l_made_right_1))) (stB (sx2 vNe (sxCall 1 m_l_above (saCons (sxVar 5) saNil)) (sx2 vAdd (sxVar 4) (sx2 vMulT (sxN vLst (saCons (sxC (.bl false)) saNil)) (sxC (.int 3))))))) [some y, some (.str r), some (.int 3), some (.tup [.ref 7, .ref 8]), some (.lst [.bl true, .bl true, .bl false]), some (.ref 8), none] (stoP y) = .ok false (stoP y) := by kernel_rfl
theorem turn_8 (y : PV) (r : Str) (hR : ∀ S, vRepr [y] S = some (.str r, S)) : t_l_made_right_2 [some y, some (.str r), some (.int 3), some (.tup [.ref 7, .ref 8]), some (.lst [.bl true, .bl true, .bl false]), some (.ref 8), none] (stoP y) = .nx [some y, some (.str r), some (.int 3), some (.tup [.ref 7, .ref 8]), some (.lst [.bl true, .bl true, .bl false]), none, none] (stoP y) := by
  have h1 := ne0 (tb := sxVar 1) (rp hR (fld_8 y r)) rfl
  unfold t_l_made_right_2 ssEnd
  rw [seqN (sp1 := [some y, some (.str r), some (.int 3), some (.tup [.ref 7, .ref 8]), some (.lst [.bl true, .bl true, .bl false]), some (.ref 8), none]) (by rw [if0 (or0 h1 h1)]; rfl), if0 (two_8 y r)]
  rfl
theorem row_3 (y : PV) (r : Str) (hR : ∀ S, vRepr [y] S = some (.str r, S)) : t_l_made_right_3 [some y, some (.str r), some (.int 3), some (.tup [.ref 7, .ref 8]), none, none, none] (stoP y) = .nx [some y, some (.str r), none, none, none, none, none] (stoP y) := by
  have h1 : forL (sgName 5) t_l_made_right_2 [.ref 7, .ref 8] [some y, some (.str r), some (.int 3), some (.tup [.ref 7, .ref 8]), some (.lst [.bl true, .bl true, .bl false]), none, none] (stoP y) = .nx [some y, some (.str r), some (.int 3), some (.tup [.ref 7, .ref 8]), some (.lst [.bl true, .bl true, .bl false]), none, none] (stoP y) := by
    unfold forL
    simp only [s_sgName, List.set_cons_succ, List.set_cons_zero, turn_7 y r hR]
    unfold forL
    simp only [s_sgName, List.set_cons_succ, List.set_cons_zero, turn_8 y r hR]
    unfold forL
    rfl
  unfold t_l_made_right_3 ssEnd
  rw [seqN (sp1 := [some y, some (.str r), some (.int 3), some (.tup [.ref 7, .ref 8]), some (.lst [.bl true, .bl true, .bl false]), none, none]) (by kernel_rfl)]
  have h2 : ssWp [5] (ssFor (siSeq (sxVar 3)) (sgName 5) t_l_made_right_2) [some y, some (.str r), some (.int 3), some (.tup [.ref 7, .ref 8]), some (.lst [.bl true, .bl true, .bl false]), none, none] (stoP y) = .nx [some y, some (.str r), some (.int 3), some (.tup [.ref 7, .ref 8]), some (.lst [.bl true, .bl true, .bl false]), none, none] (stoP y) := h1
  rw [h2]
  rfl
theorem fld_9 (y : PV) (r : Str) : (sxCall 2 m_l_field (saCons (sxVar 2) (saCons (sxVar 5) saNil))) [some y, some (.str r), some (.int 4), some (.tup [.ref 9, .ref 10]), some (.lst [.bl true, .bl true, .bl false]), some (.ref 9), none] (stoP y) = .ok y (stoP y) := by kernel_rfl
theorem two_9 (y : PV) (r : Str) : (stOr (stB (sx2 vNe (sxCall 1 m_l_marks_of (saCons (sxVar 5) saNil)) (sxLc fzL (siRange1 (sxC (.int 9))) [6] (sgName 6) stYes t_l_made_right_1))) (stB (sx2 vNe (sxCall 1 m_l_above (saCons (sxVar 5) saNil)) (sx2 vAdd (sxVar 4) (sx2 vMulT (sxN vLst (saCons (sxC (.bl false)) saNil)) (sxC (.int 3))))))) [some y, some (.str r), some (.int 4), some (.tup [.ref 9, .ref 10]), some (.lst [.bl true, .bl true, .bl false]), some (.ref 9), none] (stoP y) = .ok false (stoP y) := by kernel_rfl
theorem turn_9 (y : PV) (r : Str) (hR : ∀ S, vRepr [y] S = some (.str r, S)) : t_l_made_right_2 [some y, some (.str r), some (.int 4), some (.tup [.ref 9, .ref 10]), some (.lst [.bl true, .bl true, .bl false]), some (.ref 9), none] (stoP y) = .nx [some y, some (.str r), some (.int 4), some (.tup [.ref 9, .ref 10]), some (.lst [.bl true, .bl true, .bl false]), none, none] (stoP y) := by
  have h1 := ne0 (tb := sxVar 1) (rp hR (fld_9 y r)) rfl
  unfold t_l_made_right_2 ssEnd
  rw [seqN (sp1 := [some y, some (.str r), some (.int 4), some (.tup [.ref 9, .ref 10]), some (.lst [.bl true, .bl true, .bl false]), some (.ref 9), none]) (by rw [if0 (or0 h1 h1)]; rfl), if0 (two_9 y r)]
  rfl
theorem fld_10 (y : PV) (r : Str) : (sxCall 2 m_l_field (saCons (sxVar 2) (saCons (sxVar 5) saNil))) [some y, some (.str r), some (.int 4), some (.tup [.ref 9, .ref 10]), some (.lst [.bl true, .bl true, .bl false]), some (.ref 10), none] (stoP y) = .ok y (stoP y) := by kernel_rfl
theorem two_10 (y : PV) (r : Str) : (stOr (stB (sx2 vNe (sxCall 1 m_l_marks_of (saCons (sxVar 5) saNil)) (sxLc fzL (siRange1 (sxC (.int 9))) [6] (sgName 6) stYes t_l_made_right_1))) (stB (sx2 vNe (sxCall 1 m_l_above (saCons (sxVar 5) saNil)) (sx2 vAdd (sxVar 4) (sx2 vMulT (sxN vLst (saCons (sxC (.bl false)) saNil)) (sxC (.int 3))))))) [some y, some (.str r), some (.int 4), some (.tup [.ref 9, .ref 10]), some (.lst [.bl true, .bl true, .bl false]), some (.ref 10), none] (stoP y) = .ok false (stoP y) := by kernel_rfl
theorem turn_10 (y : PV) (r : Str) (hR : ∀ S, vRepr [y] S = some (.str r, S)) : t_l_made_right_2 [some y, some (.str r), some (.int 4), some (.tup [.ref 9, .ref 10]), some (.lst [.bl true, .bl true, .bl false]), some (.ref 10), none] (stoP y) = .nx [some y, some (.str r), some (.int 4), some (.tup [.ref 9, .ref 10]), some (.lst [.bl true, .bl true, .bl false]), none, none] (stoP y) := by
  have h1 := ne0 (tb := sxVar 1) (rp hR (fld_10 y r)) rfl
  unfold t_l_made_right_2 ssEnd
  rw [seqN (sp1 := [some y, some (.str r), some (.int 4), some (.tup [.ref 9, .ref 10]), some (.lst [.bl true, .bl true, .bl false]), some (.ref 10), none]) (by rw [if0 (or0 h1 h1)]; rfl), if0 (two_10 y r)]
  rfl
theorem row_4 (y : PV) (r : Str) (hR : ∀ S, vRepr [y] S = some (.str r, S)) : t_l_made_right_3 [some y, some (.str r), some (.int 4), some (.tup [.ref 9, .ref 10]), none, none, none] (stoP y) = .nx [some y, some (.str r), none, none, none, none, none] (stoP y) := by
  have h1 : forL (sgName 5) t_l_made_right_2 [.ref 9, .ref 10] [some y, some (.str r), some (.int 4), some (.tup [.ref 9, .ref 10]), some (.lst [.bl true, .bl true, .bl false]), none, none] (stoP y) = .nx [some y, some (.str r), some (.int 4), some (.tup [.ref 9, .ref 10]), some (.lst [.bl true, .bl true, .bl false]), none, none] (stoP y) := by
    unfold forL
    simp only [s_sgName, List.set_cons_succ, List.set_cons_zero, turn_9 y r hR]
    unfold forL
    simp only [s_sgName, List.set_cons_succ, List.set_cons_zero, turn_10 y r hR]
    unfold forL
    rfl
  unfold t_l_made_right_3 ssEnd
  rw [seqN (sp1 := [some y, some (.str r), some (.int 4), some (.tup [.ref 9, .ref 10]), some (.lst [.bl true, .bl true, .bl false]), none, none]) (by kernel_rfl)]
  have h2 : ssWp [5] (ssFor (siSeq (sxVar 3)) (sgName 5) t_l_made_right_2) [some y, some (.str r), some (.int 4), some (.tup [.ref 9, .ref 10]), some (.lst [.bl true, .bl true, .bl false]), none, none] (stoP y) = .nx [some y, some (.str r), some (.int 4), some (.tup [.ref 9, .ref 10]), some (.lst [.bl true, .bl true, .bl false]), none, none] (stoP y) := h1
  rw [h2]
  rfl
theorem fld_11 (y : PV) (r : Str) : (sxCall 2 m_l_field (saCons (sxVar 2) (saCons (sxVar 5) saNil))) [some y, some (.str r), some (.int 5), some (.tup [.ref 11, .ref 12]), some (.lst [.bl true, .bl true, .bl false]), some (.ref 11), none] (stoP y) = .ok y (stoP y) := by kernel_rfl
theorem two_11 (y : PV) (r : Str) : (stOr (stB (sx2 vNe (sxCall 1 m_l_marks_of (saCons (sxVar 5) saNil)) (sxLc fzL (siRange1 (sxC (.int 9))) [6] (sgName 6) stYes t_l_made_right_1))) (stB (sx2 vNe (sxCall 1 m_l_above (saCons (sxVar 5) saNil)) (sx2 vAdd (sxVar 4) (sx2 vMulT (sxN vLst (saCons (sxC (.bl false)) saNil)) (sxC (.int 3))))))) [some y, some (.str r), some (.int 5), some (.tup [.ref 11, .ref 12]), some (.lst [.bl true, .bl true, .bl false]), some (.ref 11), none] (stoP y) = .ok false (stoP y) := by kernel_rfl
theorem turn_11 (y : PV) (r : Str) (hR : ∀ S, vRepr [y] S = some (.str r, S)) : t_l_made_right_2 [some y, some (.str r), some (.int 5), some (.tup [.ref 11, .ref 12]), some (.lst [.bl true, .bl true, .bl false]), some (.ref 11), none] (stoP y) = .nx [some y, some (.str r), some (.int 5), some (.tup [.ref 11, .ref 12]), some (.lst [.bl true, .bl true, .bl false]), none, none] (stoP y) := by
  have h1 := ne0 (tb := sxVar 1) (rp hR (fld_11 y r)) rfl
  unfold t_l_made_right_2 ssEnd
  rw [seqN (sp1 := [some y, some (.str r), some (.int 5), some (.tup [.ref 11, .ref 12]), some (.lst [.bl true, .bl true, .bl false]), some (.ref 11), none]) (by rw [if0 (or0 h1 h1)]; rfl), if0 (two_11 y r)]
  rfl
theorem fld_12 (y : PV) (r : Str) : (sxCall 2 m_l_field (saCons (sxVar 2) (saCons (sxVar 5) saNil))) [some y, some (.str r), some (.int 5), some (.tup [.ref 11, .ref 12]), some (.lst [.bl true, .bl true, .bl false]), some (.ref 12), none] (stoP y) = .ok y (stoP y) := by kernel_rfl
theorem two_12 (y : PV) (r : Str) : (stOr (stB (sx2 vNe (sxCall 1 m_l_marks_of (saCons (sxVar 5) saNil)) (sxLc fzL (siRange1 (sxC (.int 9))) [6] (sgName 6) stYes t_l_made_right_1))) (stB (sx2 vNe (sxCall 1 m_l_above (saCons (sxVar 5) saNil)) (sx2 vAdd (sxVar 4) (sx2 vMulT (sxN vLst (saCons (sxC (.bl false)) saNil)) (sxC (.int 3))))))) [some y, some (.str r), some (.int 5), some (.tup [.ref 11, .ref 12]), some (.lst [.bl true, .bl true, .bl false]), some (.ref 12), none] (stoP y) = .ok false (stoP y) := by kernel_rfl
theorem turn_12 (y : PV) (r : Str) (hR : ∀ S, vRepr [y] S = some (.str r, S)) : t_l_made_right_2 [some y, some (.str r), some (.int 5), some (.tup [.ref 11, .ref 12]), some (.lst [.bl true, .bl true, .bl false]), some (.ref 12), none] (stoP y) = .nx [some y, some (.str r), some (.int 5), some (.tup [.ref 11, .ref 12]), some (.lst [.bl true, .bl true, .bl false]), none, none] (stoP y) := by
  have h1 := ne0 (tb := sxVar 1) (rp hR (fld_12 y r)) rfl
  unfold t_l_made_right_2 ssEnd
  rw [seqN (sp1 := [some y, some (.str r), some (.int 5), some (.tup [.ref 11, .ref 12]), some (.lst [.bl true, .bl true, .bl false]), some (.ref 12), none]) (by rw [if0 (or0 h1 h1)]; rfl), if0 (two_12 y r)]
  rfl
theorem row_5 (y : PV) (r : Str) (hR : ∀ S, vRepr [y] S = some (.str r, S)) : t_l_made_right_3 [some y, some (.str r), some (.int 5), some (.tup [.ref 11, .ref 12]), none, none, none] (stoP y) = .nx [some y, some (.str r), none, none, none, none, none] (stoP y) := by
  have h1 : forL (sgName 5) t_l_made_right_2 [.ref 11, .ref 12] [some y, some (.str r), some (.int 5), some (.tup [.ref 11, .ref 12]), some (.lst [.bl true, .bl true, .bl false]), none, none] (stoP y) = .nx [some y, some (.str r), some (.int 5), some (.tup [.ref 11, .ref 12]), some (.lst [.bl true, .bl true, .bl false]), none, none] (stoP y) := by
    unfold forL
    simp only [s_sgName, List.set_cons_succ, List.set_cons_zero, turn_11 y r hR]
    unfold forL
    simp only [s_sgName, List.set_cons_succ, List.set_cons_zero, turn_12 y r hR]
    unfold forL
    rfl
  unfold t_l_made_right_3 ssEnd
  rw [seqN (sp1 := [some y, some (.str r), some (.int 5), some (.tup [.ref 11, .ref 12]), some (.lst [.bl true, .bl true, .bl false]), none, none]) (by kernel_rfl)]
  have h2 : ssWp [5] (ssFor (siSeq (sxVar 3)) (sgName 5) t_l_made_right_2) [some y, some (.str r), some (.int 5), some (.tup [.ref 11, .ref 12]), some (.lst [.bl true, .bl true, .bl false]), none, none] (stoP y) = .nx [some y, some (.str r), some (.int 5), some (.tup [.ref 11, .ref 12]), some (.lst [.bl true, .bl true, .bl false]), none, none] (stoP y) := h1
  rw [h2]
  rfl
theorem fld_13 (y : PV) (r : Str) : (sxCall 2 m_l_field (saCons (sxVar 2) (saCons (sxVar 5) saNil))) [some y, some (.str r), some (.int 6), some (.tup [.ref 13, .ref 14]), some (.lst [.bl true, .bl true, .bl false]), some (.ref 13), none] (stoP y) = .ok y (stoP y) := by kernel_rfl
theorem two_13 (y : PV) (r : Str) : (stOr (stB (sx2 vNe (sxCall 1 m_l_marks_of (saCons (sxVar 5) saNil)) (sxLc fzL (siRange1 (sxC (.int 9))) [6] (sgName 6) stYes t_l_made_right_1))) (stB (sx2 vNe (sxCall 1 m_l_above (saCons (sxVar 5) saNil)) (sx2 vAdd (sxVar 4) (sx2 vMulT (sxN vLst (saCons (sxC (.bl false)) saNil)) (sxC (.int 3))))))) [some y, some (.str r), some (.int 6), some (.tup [.ref 13, .ref 14]), some (.lst [.bl true, .bl true, .bl false]), some (.ref 13), none] (stoP y) = .ok false (stoP y) := by kernel_rfl
theorem turn_13 (y : PV) (r : Str) (hR : ∀ S, vRepr [y] S = some (.str r, S)) : t_l_made_right_2 [some y, some (.str r), some (.int 6), some (.tup [.ref 13, .ref 14]), some (.lst [.bl true, .bl true, .bl false]), some (.ref 13), none] (stoP y) = .nx [some y, some (.str r), some (.int 6), some (.tup [.ref 13, .ref 14]), some (.lst [.bl true, .bl true, .bl false]), none, none] (stoP y) := by
  have h1 := ne0 (tb := sxVar 1) (rp hR (fld_13 y r)) rfl
  unfold t_l_made_right_2 ssEnd
  rw [seqN (sp1 := [some y, some (.str r), some (.int 6), some (.tup [.ref 13, .ref 14]), some (.lst [.bl true, .bl true, .bl false]), some (.ref 13), none]) (by rw [if0 (or0 h1 h1)]; rfl), if0 (two_13 y r)]
  rfl
theorem fld_14 (y : PV) (r : Str) : (sxCall 2 m_l_field (saCons (sxVar 2) (saCons (sxVar 5) saNil))) [some y, some (.str r), some (.int 6), some (.tup [.ref 13, .ref 14]), some (.lst [.bl true, .bl true, .bl false]), some (.ref 14), none] (stoP y) = .ok y (stoP y) := by kernel_rfl
theorem two_14 (y : PV) (r : Str) : (stOr (stB (sx2 vNe (sxCall 1 m_l_marks_of (saCons (sxVar 5) saNil)) (sxLc fzL (siRange1 (sxC (.int 9))) [6] (sgName 6) stYes t_l_made_right_1))) (stB (sx2 vNe (sxCall 1 m_l_above (saCons (sxVar 5) saNil)) (sx2 vAdd (sxVar 4) (sx2 vMulT (sxN vLst (saCons (sxC (.bl false)) saNil)) (sxC (.int 3))))))) [some y, some (.str r), some (.int 6), some (.tup [.ref 13, .ref 14]), some (.lst [.bl true, .bl true, .bl false]), some (.ref 14), none] (stoP y) = .ok false (stoP y) := by kernel_rfl
theorem turn_14 (y : PV) (r : Str) (hR : ∀ S, vRepr [y] S = some (.str r, S)) : t_l_made_right_2 [some y, some (.str r), some (.int 6), some (.tup [.ref 13, .ref 14]), some (.lst [.bl true, .bl true, .bl false]), some (.ref 14), none] (stoP y) = .nx [some y, some (.str r), some (.int 6), some (.tup [.ref 13, .ref 14]), some (.lst [.bl true, .bl true, .bl false]), none, none] (stoP y) := by
  have h1 := ne0 (tb := sxVar 1) (rp hR (fld_14 y r)) rfl
  unfold t_l_made_right_2 ssEnd
  rw [seqN (sp1 := [some y, some (.str r), some (.int 6), some (.tup [.ref 13, .ref 14]), some (.lst [.bl true, .bl true, .bl false]), some (.ref 14), none]) (by rw [if0 (or0 h1 h1)]; rfl), if0 (two_14 y r)]
  rfl
theorem row_6 (y : PV) (r : Str) (hR : ∀ S, vRepr [y] S = some (.str r, S)) : t_l_made_right_3 [some y, some (.str r), some (.int 6), some (.tup [.ref 13, .ref 14]), none, none, none] (stoP y) = .nx [some y, some (.str r), none, none, none, none, none] (stoP y) := by
  have h1 : forL (sgName 5) t_l_made_right_2 [.ref 13, .ref 14] [some y, some (.str r), some (.int 6), some (.tup [.ref 13, .ref 14]), some (.lst [.bl true, .bl true, .bl false]), none, none] (stoP y) = .nx [some y, some (.str r), some (.int 6), some (.tup [.ref 13, .ref 14]), some (.lst [.bl true, .bl true, .bl false]), none, none] (stoP y) := by
    unfold forL
    simp only [s_sgName, List.set_cons_succ, List.set_cons_zero, turn_13 y r hR]
    unfold forL
    simp only [s_sgName, List.set_cons_succ, List.set_cons_zero, turn_14 y r hR]
    unfold forL
    rfl
  unfold t_l_made_right_3 ssEnd
  rw [seqN (sp1 := [some y, some (.str r), some (.int 6), some (.tup [.ref 13, .ref 14]), some (.lst [.bl true, .bl true, .bl false]), none, none]) (by kernel_rfl)]
  have h2 : ssWp [5] (ssFor (siSeq (sxVar 3)) (sgName 5) t_l_made_right_2) [some y, some (.str r), some (.int 6), some (.tup [.ref 13, .ref 14]), some (.lst [.bl true, .bl true, .bl false]), none, none] (stoP y) = .nx [some y, some (.str r), some (.int 6), some (.tup [.ref 13, .ref 14]), some (.lst [.bl true, .bl true, .bl false]), none, none] (stoP y) := h1
  rw [h2]
  rfl
theorem fld_15 (y : PV) (r : Str) : (sxCall 2 m_l_field (saCons (sxVar 2) (saCons (sxVar 5) saNil))) [some y, some (.str r), some (.int 7), some (.tup [.ref 15, .ref 16]), some (.lst [.bl true, .bl true, .bl false]), some (.ref 15), none] (stoP y) = .ok y (stoP y) := by kernel_rfl
theorem two_15 (y : PV) (r : Str) : (stOr (stB (sx2 vNe (sxCall 1 m_l_marks_of (saCons (sxVar 5) saNil)) (sxLc fzL (siRange1 (sxC (.int 9))) [6] (sgName 6) stYes t_l_made_right_1))) (stB (sx2 vNe (sxCall 1 m_l_above (saCons (sxVar 5) saNil)) (sx2 vAdd (sxVar 4) (sx2 vMulT (sxN vLst (saCons (sxC (.bl false)) saNil)) (sxC (.int 3))))))) [some y, some (.str r), some (.int 7), some (.tup [.ref 15, .ref 16]), some (.lst [.bl true, .bl true, .bl false]), some (.ref 15), none] (stoP y) = .ok false (stoP y) := by kernel_rfl
theorem turn_15 (y : PV) (r : Str) (hR : ∀ S, vRepr [y] S = some (.str r, S)) : t_l_made_right_2 [some y, some (.str r), some (.int 7), some (.tup [.ref 15, .ref 16]), some (.lst [.bl true, .bl true, .bl false]), some (.ref 15), none] (stoP y) = .nx [some y, some (.str r), some (.int 7), some (.tup [.ref 15, .ref 16]), some (.lst [.bl true, .bl true, .bl false]), none, none] (stoP y) := by
  have h1 := ne0 (tb := sxVar 1) (rp hR (fld_15 y r)) rfl
  unfold t_l_made_right_2 ssEnd
  rw [seqN (sp1 := [some y, some (.str r), some (.int 7), some (.tup [.ref 15, .ref 16]), some (.lst [.bl true, .bl true, .bl false]), some (.ref 15), none]) (by rw [if0 (or0 h1 h1)]; rfl), if0 (two_15 y r)]
  rfl
theorem fld_16 (y : PV) (r : Str) : (sxCall 2 m_l_field (saCons (sxVar 2) (saCons (sxVar 5) saNil))) [some y, some (.str r), some (.int 7), some (.tup [.ref 15, .ref 16]), some (.lst [.bl true, .bl true, .bl false]), some (.ref 16), none] (stoP y) = .ok y (stoP y) := by kernel_rfl
theorem two_16 (y : PV) (r : Str) : (stOr (stB (sx2 vNe (sxCall 1 m_l_marks_of (saCons (sxVar 5) saNil)) (sxLc fzL (siRange1 (sxC (.int 9))) [6] (sgName 6) stYes t_l_made_right_1))) (stB (sx2 vNe (sxCall 1 m_l_above (saCons (sxVar 5) saNil)) (sx2 vAdd (sxVar 4) (sx2 vMulT (sxN vLst (saCons (sxC (.bl false)) saNil)) (sxC (.int 3))))))) [some y, some (.str r), some (.int 7), some (.tup [.ref 15, .ref 16]), some (.lst [.bl true, .bl true, .bl false]), some (.ref 16), none] (stoP y) = .ok false (stoP y) := by kernel_rfl
theorem turn_16 (y : PV) (r : Str) (hR : ∀ S, vRepr [y] S = some (.str r, S)) : t_l_made_right_2 [some y, some (.str r), some (.int 7), some (.tup [.ref 15, .ref 16]), some (.lst [.bl true, .bl true, .bl false]), some (.ref 16), none] (stoP y) = .nx [some y, some (.str r), some (.int 7), some (.tup [.ref 15, .ref 16]), some (.lst [.bl true, .bl true, .bl false]), none, none] (stoP y) := by
  have h1 := ne0 (tb := sxVar 1) (rp hR (fld_16 y r)) rfl
  unfold t_l_made_right_2 ssEnd
  rw [seqN (sp1 := [some y, some (.str r), some (.int 7), some (.tup [.ref 15, .ref 16]), some (.lst [.bl true, .bl true, .bl false]), some (.ref 16), none]) (by rw [if0 (or0 h1 h1)]; rfl), if0 (two_16 y r)]
  rfl
theorem row_7 (y : PV) (r : Str) (hR : ∀ S, vRepr [y] S = some (.str r, S)) : t_l_made_right_3 [some y, some (.str r), some (.int 7), some (.tup [.ref 15, .ref 16]), none, none, none] (stoP y) = .nx [some y, some (.str r), none, none, none, none, none] (stoP y) := by
  have h1 : forL (sgName 5) t_l_made_right_2 [.ref 15, .ref 16] [some y, some (.str r), some (.int 7), some (.tup [.ref 15, .ref 16]), some (.lst [.bl true, .bl true, .bl false]), none, none] (stoP y) = .nx [some y, some (.str r), some (.int 7), some (.tup [.ref 15, .ref 16]), some (.lst [.bl true, .bl true, .bl false]), none, none] (stoP y) := by
    unfold forL
    simp only [s_sgName, List.set_cons_succ, List.set_cons_zero, turn_15 y r hR]
    unfold forL
    simp only [s_sgName, List.set_cons_succ, List.set_cons_zero, turn_16 y r hR]
    unfold forL
    rfl
  unfold t_l_made_right_3 ssEnd
  rw [seqN (sp1 := [some y, some (.str r), some (.int 7), some (.tup [.ref 15, .ref 16]), some (.lst [.bl true, .bl true, .bl false]), none, none]) (by kernel_rfl)]
  have h2 : ssWp [5] (ssFor (siSeq (sxVar 3)) (sgName 5) t_l_made_right_2) [some y, some (.str r), some (.int 7), some (.tup [.ref 15, .ref 16]), some (.lst [.bl true, .bl true, .bl false]), none, none] (stoP y) = .nx [some y, some (.str r), some (.int 7), some (.tup [.ref 15, .ref 16]), some (.lst [.bl true, .bl true, .bl false]), none, none] (stoP y) := h1
  rw [h2]
  rfl
theorem fld_17 (y : PV) (r : Str) : (sxCall 2 m_l_field (saCons (sxVar 2) (saCons (sxVar 5) saNil))) [some y, some (.str r), some (.int 8), some (.tup [.ref 17, .ref 18]), some (.lst [.bl false, .bl false, .bl true]), some (.ref 17), none] (stoP y) = .ok y (stoP y) := by kernel_rfl
theorem two_17 (y : PV) (r : Str) : (stOr (stB (sx2 vNe (sxCall 1 m_l_marks_of (saCons (sxVar 5) saNil)) (sxLc fzL (siRange1 (sxC (.int 9))) [6] (sgName 6) stYes t_l_made_right_1))) (stB (sx2 vNe (sxCall 1 m_l_above (saCons (sxVar 5) saNil)) (sx2 vAdd (sxVar 4) (sx2 vMulT (sxN vLst (saCons (sxC (.bl false)) saNil)) (sxC (.int 3))))))) [some y, some (.str r), some (.int 8), some (.tup [.ref 17, .ref 18]), some (.lst [.bl false, .bl false, .bl true]), some (.ref 17), none] (stoP y) = .ok false (stoP y) := by kernel_rfl
theorem turn_17 (y : PV) (r : Str) (hR : ∀ S, vRepr [y] S = some (.str r, S)) : t_l_made_right_2 [some y, some (.str r), some (.int 8), some (.tup [.ref 17, .ref 18]), some (.lst [.bl false, .bl false, .bl true]), some (.ref 17), none] (stoP y) = .nx [some y, some (.str r), some (.int 8), some (.tup [.ref 17, .ref 18]), some (.lst [.bl false, .bl false, .bl true]), none, none] (stoP y) := by
  have h1 := ne0 (tb := sxVar 1) (rp hR (fld_17 y r)) rfl
  unfold t_l_made_right_2 ssEnd
  rw [seqN (sp1 := [some y, some (.str r), some (.int 8), some (.tup [.ref 17, .ref 18]), some (.lst [.bl false, .bl false, .bl true]), some (.ref 17), none]) (by rw [if0 (or0 h1 h1)]; rfl), if0 (two_17 y r)]
  rfl
theorem fld_18 (y : PV) (r : Str) : (sxCall 2 m_l_field (saCons (sxVar 2) (saCons (sxVar 5) saNil))) [some y, some (.str r), some (.int 8), some (.tup [.ref 17, .ref 18]), some (.lst [.bl false, .bl false, .bl true]), some (.ref 18), none] (stoP y) = .ok y (stoP y) := by kernel_rfl
theorem two_18 (y : PV) (r : Str) : (stOr (stB (sx2 vNe (sxCall 1 m_l_marks_of (saCons (sxVar 5) saNil)) (sxLc fzL (siRange1 (sxC (.int 9))) [6] (sgName 6) stYes t_l_made_right_1))) (stB (sx2 vNe (sxCall 1 m_l_above (saCons (sxVar 5) saNil)) (sx2 vAdd (sxVar 4) (sx2 vMulT (sxN vLst (saCons (sxC (.bl false)) saNil)) (sxC (.int 3))))))) [some y, some (.str r), some (.int 8), some (.tup [.ref 17, .ref 18]), some (.lst [.bl false, .bl false, .bl true]), some (.ref 18), none] (stoP y) = .ok false (stoP y) := by kernel_rfl
theorem turn_18 (y : PV) (r : Str) (hR : ∀ S, vRepr [y] S = some (.str r, S)) : t_l_made_right_2 [some y, some (.str r), some (.int 8), some (.tup [.ref 17, .ref 18]), some (.lst [.bl false, .bl false, .bl true]), some (.ref 18), none] (stoP y) = .nx [some y, some (.str r), some (.int 8), some (.tup [.ref 17, .ref 18]), some (.lst [.bl false, .bl false, .bl true]), none, none] (stoP y) := by
  have h1 := ne0 (tb := sxVar 1) (rp hR (fld_18 y r)) rfl
  unfold t_l_made_right_2 ssEnd
  rw [seqN (sp1 := [some y, some (.str r), some (.int 8), some (.tup [.ref 17, .ref 18]), some (.lst [.bl false, .bl false, .bl true]), some (.ref 18), none]) (by rw [if0 (or0 h1 h1)]; rfl), if0 (two_18 y r)]
  rfl
theorem row_8 (y : PV) (r : Str) (hR : ∀ S, vRepr [y] S = some (.str r, S)) : t_l_made_right_3 [some y, some (.str r), some (.int 8), some (.tup [.ref 17, .ref 18]), none, none, none] (stoP y) = .nx [some y, some (.str r), none, none, none, none, none] (stoP y) := by
  have h1 : forL (sgName 5) t_l_made_right_2 [.ref 17, .ref 18] [some y, some (.str r), some (.int 8), some (.tup [.ref 17, .ref 18]), some (.lst [.bl false, .bl false, .bl true]), none, none] (stoP y) = .nx [some y, some (.str r), some (.int 8), some (.tup [.ref 17, .ref 18]), some (.lst [.bl false, .bl false, .bl true]), none, none] (stoP y) := by
    unfold forL
    simp only [s_sgName, List.set_cons_succ, List.set_cons_zero, turn_17 y r hR]
    unfold forL
    simp only [s_sgName, List.set_cons_succ, List.set_cons_zero, turn_18 y r hR]
    unfold forL
    rfl
  unfold t_l_made_right_3 ssEnd
  rw [seqN (sp1 := [some y, some (.str r), some (.int 8), some (.tup [.ref 17, .ref 18]), some (.lst [.bl false, .bl false, .bl true]), none, none]) (by kernel_rfl)]
  have h2 : ssWp [5] (ssFor (siSeq (sxVar 3)) (sgName 5) t_l_made_right_2) [some y, some (.str r), some (.int 8), some (.tup [.ref 17, .ref 18]), some (.lst [.bl false, .bl false, .bl true]), none, none] (stoP y) = .nx [some y, some (.str r), some (.int 8), some (.tup [.ref 17, .ref 18]), some (.lst [.bl false, .bl false, .bl true]), none, none] (stoP y) := h1
  rw [h2]
  rfl
theorem made_eq (y : PV) (r : Str) (hR : ∀ S, vRepr [y] S = some (.str r, S)) : bodyF 7 t_l_made_right [y] [] = .ok (.bl true) (stoP y) := by
  have h0 : t_l_made_right (startP 7 [y]) [] = .rt (.bl true) (stoP y) := by
    unfold t_l_made_right
    have a1 : ssSet 1 (sxN vRepr (saCons (sxVar 0) saNil)) (startP 7 [y]) [] = .nx [some y, some (.str r), none, none, none, none, none] [] := by
      simp only [s_ssSet, rp hR (t := sxVar 0) (sp := startP 7 [y]) (S := []) rfl, bindS]; rfl
    rw [seqN a1]
    have a2 : siEnum (sxCall 1 m_l_pairs (saCons (sxVar 0) saNil)) [some y, some (.str r), none, none, none, none, none] [] = .ok (.items [.tup [.int 0, .tup [.ref 0, .ref 1]], .tup [.int 1, .tup [.ref 2, .ref 3]], .tup [.int 2, .tup [.ref 5, .ref 6]], .tup [.int 3, .tup [.ref 7, .ref 8]], .tup [.int 4, .tup [.ref 9, .ref 10]], .tup [.int 5, .tup [.ref 11, .ref 12]], .tup [.int 6, .tup [.ref 13, .ref 14]], .tup [.int 7, .tup [.ref 15, .ref 16]], .tup [.int 8, .tup [.ref 17, .ref 18]]]) (stoP y) := by kernel_rfl
    have a3 : ssWp [2, 3, 4, 5] (ssFor (siEnum (sxCall 1 m_l_pairs (saCons (sxVar 0) saNil))) (sgTup 2 (sgCons (sgName 2) (sgCons (sgName 3) sgNil))) t_l_made_right_3) [some y, some (.str r), none, none, none, none, none] [] = .nx [some y, some (.str r), none, none, none, none, none] (stoP y) := by
      refine Eq.trans (wp_eq rfl) ?_
      refine Eq.trans (for_it a2) ?_
      refine Eq.trans (forL_nx (sp1 := [some y, some (.str r), some (.int 0), some (.tup [.ref 0, .ref 1]), none, none, none]) rfl (row_0 y r hR)) ?_
      refine Eq.trans (forL_nx (sp1 := [some y, some (.str r), some (.int 1), some (.tup [.ref 2, .ref 3]), none, none, none]) rfl (row_1 y r hR)) ?_
      refine Eq.trans (forL_nx (sp1 := [some y, some (.str r), some (.int 2), some (.tup [.ref 5, .ref 6]), none, none, none]) rfl (row_2 y r hR)) ?_
      refine Eq.trans (forL_nx (sp1 := [some y, some (.str r), some (.int 3), some (.tup [.ref 7, .ref 8]), none, none, none]) rfl (row_3 y r hR)) ?_
      refine Eq.trans (forL_nx (sp1 := [some y, some (.str r), some (.int 4), some (.tup [.ref 9, .ref 10]), none, none, none]) rfl (row_4 y r hR)) ?_
      refine Eq.trans (forL_nx (sp1 := [some y, some (.str r), some (.int 5), some (.tup [.ref 11, .ref 12]), none, none, none]) rfl (row_5 y r hR)) ?_
      refine Eq.trans (forL_nx (sp1 := [some y, some (.str r), some (.int 6), some (.tup [.ref 13, .ref 14]), none, none, none]) rfl (row_6 y r hR)) ?_
      refine Eq.trans (forL_nx (sp1 := [some y, some (.str r), some (.int 7), some (.tup [.ref 15, .ref 16]), none, none, none]) rfl (row_7 y r hR)) ?_
      refine Eq.trans (forL_nx (sp1 := [some y, some (.str r), some (.int 8), some (.tup [.ref 17, .ref 18]), none, none, none]) rfl (row_8 y r hR)) ?_
      rfl
    rw [seqX a3]
    have a4 : sx2 vEqS (sxN vRepr (saCons (sxVar 0) saNil)) (sxVar 1) [some y, some (.str r), none, none, none, none, none] (stoP y) = .ok (.bl true) (stoP y) := by
      have e : vEqS (.str r) (.str r) (stoP y) = some (.bl true, stoP y) := by simp [vEqS]
      exact two_ok (rp hR (t := sxVar 0) rfl) rfl e
    exact ret_ok a4
  unfold bodyF
  rw [h0]
def n_l_made_right (v : QV) : RR Bool := match reprR eQ v with
  | .ok _ => .ok true
  | _ => .stuck
theorem x_l_made_right (v : QV) : RV (p_l_made_right [eQ v]) (n_l_made_right v) eB := by
  unfold n_l_made_right
  cases h : reprR eQ v with
  | stuck => trivial
  | exc x => trivial
  | ok r =>
    have q := made_eq (eQ v) r fun S => reprP_ok h S
    have hb : belows 0 [eQ v] = true := by
      show (below 0 v.1 && true) = true
      rw [v.2]; rfl
    show p_l_made_right [eQ v] = .ok (eB true)
    unfold p_l_made_right pureF
    rw [if_pos hb, q]
    rfl
theorem thr_0 (y : PV) (r : Str) (hR : ∀ S, vRepr [y] S = some (.str r, S)) : ssTry (takers ([("BadLot", ["BadLot", "LevelError"]), ("BadLevels", ["BadLevels", "LevelError"]), ("BadRun", ["BadRun", "LevelError"]), ("BadDeed", ["BadDeed", "LevelError"]), ("BadSplit", ["BadSplit", "LevelError"]), ("BadFirm", ["BadFirm", "LevelError"]), ("BadSeen", ["BadSeen", "LevelError"]), ("BadPaper", ["BadPaper", "LevelError"]), ("TooGreat", ["TooGreat"]), ("LevelError", ["LevelError"])] : List (Str × List Str)) ["LevelError"]) 2 (ssRaise "BadLevels" "value" (sxVar 0)) (ssExpr (sxMt isL vAppend (sxVar 1) (saCons (sxN vLst (saCons (sx2 vItem (sxCall 1 (okF m_l_marks_of) (saCons (sxVar 2) saNil)) (sxC (.int 2))) (saCons (sxN vRepr (saCons (sxFld (["BadLot", "BadLevels", "BadRun", "BadDeed", "BadSplit", "BadFirm", "BadSeen", "BadPaper", "TooGreat", "LevelError"] : List Str) "value" (sxVar 2)) saNil)) saNil))) saNil))) [some y, some (.ref 0), none] (.lst [] :: []) = .nx [some y, some (.ref 0), none] (.lst [.lst [.bl true, .str r]] :: [(.exc "BadLevels" [("value", y)])]) := by
  have hA : (sx2 vItem (sxCall 1 (okF m_l_marks_of) (saCons (sxVar 2) saNil)) (sxC (.int 2))) [some y, some (.ref 0), some (.ref 1)] (.lst [] :: [(.exc "BadLevels" [("value", y)])]) = .ok (.bl true) (.lst [] :: [(.exc "BadLevels" [("value", y)])]) := by kernel_rfl
  have hB : (sxN vRepr (saCons (sxFld (["BadLot", "BadLevels", "BadRun", "BadDeed", "BadSplit", "BadFirm", "BadSeen", "BadPaper", "TooGreat", "LevelError"] : List Str) "value" (sxVar 2)) saNil)) [some y, some (.ref 0), some (.ref 1)] (.lst [] :: [(.exc "BadLevels" [("value", y)])]) = .ok (.str r) (.lst [] :: [(.exc "BadLevels" [("value", y)])]) := rp hR (by kernel_rfl)
  have hU := app_ok (sp := [some y, some (.ref 0), some (.ref 1)]) rfl (by rw [sizeLine_eq]; show 0 < 16777216; decide) (lst_ok hA hB)
  exact try_ok (sp := [some y, some (.ref 0), none]) (sp2 := [some y, some (.ref 0), some (.ref 1)]) (S := (.lst [] :: [])) (S2 := (.lst [.lst [.bl true, .str r]] :: [(.exc "BadLevels" [("value", y)])])) rfl (by decide +kernel) hU
theorem thr_1 (y : PV) (r : Str) (hR : ∀ S, vRepr [y] S = some (.str r, S)) : ssTry (takers ([("BadLot", ["BadLot", "LevelError"]), ("BadLevels", ["BadLevels", "LevelError"]), ("BadRun", ["BadRun", "LevelError"]), ("BadDeed", ["BadDeed", "LevelError"]), ("BadSplit", ["BadSplit", "LevelError"]), ("BadFirm", ["BadFirm", "LevelError"]), ("BadSeen", ["BadSeen", "LevelError"]), ("BadPaper", ["BadPaper", "LevelError"]), ("TooGreat", ["TooGreat"]), ("LevelError", ["LevelError"])] : List (Str × List Str)) ["LevelError"]) 2 (ssRaise "BadLot" "place" (sxVar 0)) (ssExpr (sxMt isL vAppend (sxVar 1) (saCons (sxN vLst (saCons (sx2 vItem (sxCall 1 (okF m_l_marks_of) (saCons (sxVar 2) saNil)) (sxC (.int 0))) (saCons (sxN vRepr (saCons (sxFld (["BadLot", "BadLevels", "BadRun", "BadDeed", "BadSplit", "BadFirm", "BadSeen", "BadPaper", "TooGreat", "LevelError"] : List Str) "place" (sxVar 2)) saNil)) saNil))) saNil))) [some y, some (.ref 0), none] (.lst [.lst [.bl true, .str r]] :: [(.exc "BadLevels" [("value", y)])]) = .nx [some y, some (.ref 0), none] (.lst [.lst [.bl true, .str r], .lst [.bl true, .str r]] :: [(.exc "BadLevels" [("value", y)]), (.exc "BadLot" [("place", y)])]) := by
  have hA : (sx2 vItem (sxCall 1 (okF m_l_marks_of) (saCons (sxVar 2) saNil)) (sxC (.int 0))) [some y, some (.ref 0), some (.ref 2)] (.lst [.lst [.bl true, .str r]] :: [(.exc "BadLevels" [("value", y)]), (.exc "BadLot" [("place", y)])]) = .ok (.bl true) (.lst [.lst [.bl true, .str r]] :: [(.exc "BadLevels" [("value", y)]), (.exc "BadLot" [("place", y)])]) := by kernel_rfl
  have hB : (sxN vRepr (saCons (sxFld (["BadLot", "BadLevels", "BadRun", "BadDeed", "BadSplit", "BadFirm", "BadSeen", "BadPaper", "TooGreat", "LevelError"] : List Str) "place" (sxVar 2)) saNil)) [some y, some (.ref 0), some (.ref 2)] (.lst [.lst [.bl true, .str r]] :: [(.exc "BadLevels" [("value", y)]), (.exc "BadLot" [("place", y)])]) = .ok (.str r) (.lst [.lst [.bl true, .str r]] :: [(.exc "BadLevels" [("value", y)]), (.exc "BadLot" [("place", y)])]) := rp hR (by kernel_rfl)
  have hU := app_ok (sp := [some y, some (.ref 0), some (.ref 2)]) rfl (by rw [sizeLine_eq]; show 1 < 16777216; decide) (lst_ok hA hB)
  exact try_ok (sp := [some y, some (.ref 0), none]) (sp2 := [some y, some (.ref 0), some (.ref 2)]) (S := (.lst [.lst [.bl true, .str r]] :: [(.exc "BadLevels" [("value", y)])])) (S2 := (.lst [.lst [.bl true, .str r], .lst [.bl true, .str r]] :: [(.exc "BadLevels" [("value", y)]), (.exc "BadLot" [("place", y)])])) rfl (by decide +kernel) hU
theorem thr_2 (y : PV) (r : Str) (hR : ∀ S, vRepr [y] S = some (.str r, S)) : ssTry (takers ([("BadLot", ["BadLot", "LevelError"]), ("BadLevels", ["BadLevels", "LevelError"]), ("BadRun", ["BadRun", "LevelError"]), ("BadDeed", ["BadDeed", "LevelError"]), ("BadSplit", ["BadSplit", "LevelError"]), ("BadFirm", ["BadFirm", "LevelError"]), ("BadSeen", ["BadSeen", "LevelError"]), ("BadPaper", ["BadPaper", "LevelError"]), ("TooGreat", ["TooGreat"]), ("LevelError", ["LevelError"])] : List (Str × List Str)) ["BadRun"]) 2 (ssRaise "BadRun" "place" (sxVar 0)) (ssExpr (sxMt isL vAppend (sxVar 1) (saCons (sxN vLst (saCons (sx2 vItem (sxCall 1 (okF m_l_marks_of) (saCons (sxVar 2) saNil)) (sxC (.int 1))) (saCons (sxN vRepr (saCons (sxFld (["BadLot", "BadLevels", "BadRun", "BadDeed", "BadSplit", "BadFirm", "BadSeen", "BadPaper", "TooGreat", "LevelError"] : List Str) "place" (sxVar 2)) saNil)) saNil))) saNil))) [some y, some (.ref 0), none] (.lst [.lst [.bl true, .str r], .lst [.bl true, .str r]] :: [(.exc "BadLevels" [("value", y)]), (.exc "BadLot" [("place", y)])]) = .nx [some y, some (.ref 0), none] (.lst [.lst [.bl true, .str r], .lst [.bl true, .str r], .lst [.bl true, .str r]] :: [(.exc "BadLevels" [("value", y)]), (.exc "BadLot" [("place", y)]), (.exc "BadRun" [("place", y)])]) := by
  have hA : (sx2 vItem (sxCall 1 (okF m_l_marks_of) (saCons (sxVar 2) saNil)) (sxC (.int 1))) [some y, some (.ref 0), some (.ref 3)] (.lst [.lst [.bl true, .str r], .lst [.bl true, .str r]] :: [(.exc "BadLevels" [("value", y)]), (.exc "BadLot" [("place", y)]), (.exc "BadRun" [("place", y)])]) = .ok (.bl true) (.lst [.lst [.bl true, .str r], .lst [.bl true, .str r]] :: [(.exc "BadLevels" [("value", y)]), (.exc "BadLot" [("place", y)]), (.exc "BadRun" [("place", y)])]) := by kernel_rfl
  have hB : (sxN vRepr (saCons (sxFld (["BadLot", "BadLevels", "BadRun", "BadDeed", "BadSplit", "BadFirm", "BadSeen", "BadPaper", "TooGreat", "LevelError"] : List Str) "place" (sxVar 2)) saNil)) [some y, some (.ref 0), some (.ref 3)] (.lst [.lst [.bl true, .str r], .lst [.bl true, .str r]] :: [(.exc "BadLevels" [("value", y)]), (.exc "BadLot" [("place", y)]), (.exc "BadRun" [("place", y)])]) = .ok (.str r) (.lst [.lst [.bl true, .str r], .lst [.bl true, .str r]] :: [(.exc "BadLevels" [("value", y)]), (.exc "BadLot" [("place", y)]), (.exc "BadRun" [("place", y)])]) := rp hR (by kernel_rfl)
  have hU := app_ok (sp := [some y, some (.ref 0), some (.ref 3)]) rfl (by rw [sizeLine_eq]; show 2 < 16777216; decide) (lst_ok hA hB)
  exact try_ok (sp := [some y, some (.ref 0), none]) (sp2 := [some y, some (.ref 0), some (.ref 3)]) (S := (.lst [.lst [.bl true, .str r], .lst [.bl true, .str r]] :: [(.exc "BadLevels" [("value", y)]), (.exc "BadLot" [("place", y)])])) (S2 := (.lst [.lst [.bl true, .str r], .lst [.bl true, .str r], .lst [.bl true, .str r]] :: [(.exc "BadLevels" [("value", y)]), (.exc "BadLot" [("place", y)]), (.exc "BadRun" [("place", y)])])) rfl (by decide +kernel) hU
theorem thr_3 (y : PV) (r : Str) (hR : ∀ S, vRepr [y] S = some (.str r, S)) : ssTry (takers ([("BadLot", ["BadLot", "LevelError"]), ("BadLevels", ["BadLevels", "LevelError"]), ("BadRun", ["BadRun", "LevelError"]), ("BadDeed", ["BadDeed", "LevelError"]), ("BadSplit", ["BadSplit", "LevelError"]), ("BadFirm", ["BadFirm", "LevelError"]), ("BadSeen", ["BadSeen", "LevelError"]), ("BadPaper", ["BadPaper", "LevelError"]), ("TooGreat", ["TooGreat"]), ("LevelError", ["LevelError"])] : List (Str × List Str)) ["LevelError"]) 2 (ssRaise "BadPaper" "word" (sxVar 0)) (ssExpr (sxMt isL vAppend (sxVar 1) (saCons (sxN vLst (saCons (sx2 vItem (sxCall 1 (okF m_l_marks_of) (saCons (sxVar 2) saNil)) (sxC (.int 7))) (saCons (sxN vRepr (saCons (sxFld (["BadLot", "BadLevels", "BadRun", "BadDeed", "BadSplit", "BadFirm", "BadSeen", "BadPaper", "TooGreat", "LevelError"] : List Str) "word" (sxVar 2)) saNil)) saNil))) saNil))) [some y, some (.ref 0), none] (.lst [.lst [.bl true, .str r], .lst [.bl true, .str r], .lst [.bl true, .str r]] :: [(.exc "BadLevels" [("value", y)]), (.exc "BadLot" [("place", y)]), (.exc "BadRun" [("place", y)])]) = .nx [some y, some (.ref 0), none] (.lst [.lst [.bl true, .str r], .lst [.bl true, .str r], .lst [.bl true, .str r], .lst [.bl true, .str r]] :: [(.exc "BadLevels" [("value", y)]), (.exc "BadLot" [("place", y)]), (.exc "BadRun" [("place", y)]), (.exc "BadPaper" [("word", y)])]) := by
  have hA : (sx2 vItem (sxCall 1 (okF m_l_marks_of) (saCons (sxVar 2) saNil)) (sxC (.int 7))) [some y, some (.ref 0), some (.ref 4)] (.lst [.lst [.bl true, .str r], .lst [.bl true, .str r], .lst [.bl true, .str r]] :: [(.exc "BadLevels" [("value", y)]), (.exc "BadLot" [("place", y)]), (.exc "BadRun" [("place", y)]), (.exc "BadPaper" [("word", y)])]) = .ok (.bl true) (.lst [.lst [.bl true, .str r], .lst [.bl true, .str r], .lst [.bl true, .str r]] :: [(.exc "BadLevels" [("value", y)]), (.exc "BadLot" [("place", y)]), (.exc "BadRun" [("place", y)]), (.exc "BadPaper" [("word", y)])]) := by kernel_rfl
  have hB : (sxN vRepr (saCons (sxFld (["BadLot", "BadLevels", "BadRun", "BadDeed", "BadSplit", "BadFirm", "BadSeen", "BadPaper", "TooGreat", "LevelError"] : List Str) "word" (sxVar 2)) saNil)) [some y, some (.ref 0), some (.ref 4)] (.lst [.lst [.bl true, .str r], .lst [.bl true, .str r], .lst [.bl true, .str r]] :: [(.exc "BadLevels" [("value", y)]), (.exc "BadLot" [("place", y)]), (.exc "BadRun" [("place", y)]), (.exc "BadPaper" [("word", y)])]) = .ok (.str r) (.lst [.lst [.bl true, .str r], .lst [.bl true, .str r], .lst [.bl true, .str r]] :: [(.exc "BadLevels" [("value", y)]), (.exc "BadLot" [("place", y)]), (.exc "BadRun" [("place", y)]), (.exc "BadPaper" [("word", y)])]) := rp hR (by kernel_rfl)
  have hU := app_ok (sp := [some y, some (.ref 0), some (.ref 4)]) rfl (by rw [sizeLine_eq]; show 3 < 16777216; decide) (lst_ok hA hB)
  exact try_ok (sp := [some y, some (.ref 0), none]) (sp2 := [some y, some (.ref 0), some (.ref 4)]) (S := (.lst [.lst [.bl true, .str r], .lst [.bl true, .str r], .lst [.bl true, .str r]] :: [(.exc "BadLevels" [("value", y)]), (.exc "BadLot" [("place", y)]), (.exc "BadRun" [("place", y)])])) (S2 := (.lst [.lst [.bl true, .str r], .lst [.bl true, .str r], .lst [.bl true, .str r], .lst [.bl true, .str r]] :: [(.exc "BadLevels" [("value", y)]), (.exc "BadLot" [("place", y)]), (.exc "BadRun" [("place", y)]), (.exc "BadPaper" [("word", y)])])) rfl (by decide +kernel) hU
theorem thr_4 (y : PV) (r : Str) (hR : ∀ S, vRepr [y] S = some (.str r, S)) : ssTry (takers ([("BadLot", ["BadLot", "LevelError"]), ("BadLevels", ["BadLevels", "LevelError"]), ("BadRun", ["BadRun", "LevelError"]), ("BadDeed", ["BadDeed", "LevelError"]), ("BadSplit", ["BadSplit", "LevelError"]), ("BadFirm", ["BadFirm", "LevelError"]), ("BadSeen", ["BadSeen", "LevelError"]), ("BadPaper", ["BadPaper", "LevelError"]), ("TooGreat", ["TooGreat"]), ("LevelError", ["LevelError"])] : List (Str × List Str)) ["TooGreat"]) 2 (ssRaise "TooGreat" "most" (sxVar 0)) (ssExpr (sxMt isL vAppend (sxVar 1) (saCons (sxN vLst (saCons (sx2 vItem (sxCall 1 (okF m_l_marks_of) (saCons (sxVar 2) saNil)) (sxC (.int 8))) (saCons (sxN vRepr (saCons (sxFld (["BadLot", "BadLevels", "BadRun", "BadDeed", "BadSplit", "BadFirm", "BadSeen", "BadPaper", "TooGreat", "LevelError"] : List Str) "most" (sxVar 2)) saNil)) saNil))) saNil))) [some y, some (.ref 0), none] (.lst [.lst [.bl true, .str r], .lst [.bl true, .str r], .lst [.bl true, .str r], .lst [.bl true, .str r]] :: [(.exc "BadLevels" [("value", y)]), (.exc "BadLot" [("place", y)]), (.exc "BadRun" [("place", y)]), (.exc "BadPaper" [("word", y)])]) = .nx [some y, some (.ref 0), none] (.lst [.lst [.bl true, .str r], .lst [.bl true, .str r], .lst [.bl true, .str r], .lst [.bl true, .str r], .lst [.bl true, .str r]] :: [(.exc "BadLevels" [("value", y)]), (.exc "BadLot" [("place", y)]), (.exc "BadRun" [("place", y)]), (.exc "BadPaper" [("word", y)]), (.exc "TooGreat" [("most", y)])]) := by
  have hA : (sx2 vItem (sxCall 1 (okF m_l_marks_of) (saCons (sxVar 2) saNil)) (sxC (.int 8))) [some y, some (.ref 0), some (.ref 5)] (.lst [.lst [.bl true, .str r], .lst [.bl true, .str r], .lst [.bl true, .str r], .lst [.bl true, .str r]] :: [(.exc "BadLevels" [("value", y)]), (.exc "BadLot" [("place", y)]), (.exc "BadRun" [("place", y)]), (.exc "BadPaper" [("word", y)]), (.exc "TooGreat" [("most", y)])]) = .ok (.bl true) (.lst [.lst [.bl true, .str r], .lst [.bl true, .str r], .lst [.bl true, .str r], .lst [.bl true, .str r]] :: [(.exc "BadLevels" [("value", y)]), (.exc "BadLot" [("place", y)]), (.exc "BadRun" [("place", y)]), (.exc "BadPaper" [("word", y)]), (.exc "TooGreat" [("most", y)])]) := by kernel_rfl
  have hB : (sxN vRepr (saCons (sxFld (["BadLot", "BadLevels", "BadRun", "BadDeed", "BadSplit", "BadFirm", "BadSeen", "BadPaper", "TooGreat", "LevelError"] : List Str) "most" (sxVar 2)) saNil)) [some y, some (.ref 0), some (.ref 5)] (.lst [.lst [.bl true, .str r], .lst [.bl true, .str r], .lst [.bl true, .str r], .lst [.bl true, .str r]] :: [(.exc "BadLevels" [("value", y)]), (.exc "BadLot" [("place", y)]), (.exc "BadRun" [("place", y)]), (.exc "BadPaper" [("word", y)]), (.exc "TooGreat" [("most", y)])]) = .ok (.str r) (.lst [.lst [.bl true, .str r], .lst [.bl true, .str r], .lst [.bl true, .str r], .lst [.bl true, .str r]] :: [(.exc "BadLevels" [("value", y)]), (.exc "BadLot" [("place", y)]), (.exc "BadRun" [("place", y)]), (.exc "BadPaper" [("word", y)]), (.exc "TooGreat" [("most", y)])]) := rp hR (by kernel_rfl)
  have hU := app_ok (sp := [some y, some (.ref 0), some (.ref 5)]) rfl (by rw [sizeLine_eq]; show 4 < 16777216; decide) (lst_ok hA hB)
  exact try_ok (sp := [some y, some (.ref 0), none]) (sp2 := [some y, some (.ref 0), some (.ref 5)]) (S := (.lst [.lst [.bl true, .str r], .lst [.bl true, .str r], .lst [.bl true, .str r], .lst [.bl true, .str r]] :: [(.exc "BadLevels" [("value", y)]), (.exc "BadLot" [("place", y)]), (.exc "BadRun" [("place", y)]), (.exc "BadPaper" [("word", y)])])) (S2 := (.lst [.lst [.bl true, .str r], .lst [.bl true, .str r], .lst [.bl true, .str r], .lst [.bl true, .str r], .lst [.bl true, .str r]] :: [(.exc "BadLevels" [("value", y)]), (.exc "BadLot" [("place", y)]), (.exc "BadRun" [("place", y)]), (.exc "BadPaper" [("word", y)]), (.exc "TooGreat" [("most", y)])])) rfl (by decide +kernel) hU
theorem thrown_eq (y : PV) (r : Str) (hR : ∀ S, vRepr [y] S = some (.str r, S)) : ∃ S, bodyF 3 t_l_thrown [y] [] = .ok (.lst [.lst [.bl true, .str r], .lst [.bl true, .str r], .lst [.bl true, .str r], .lst [.bl true, .str r], .lst [.bl true, .str r]]) S := by
  have e : t_l_thrown (startP 3 [y]) [] = .rt (.lst [.lst [.bl true, .str r], .lst [.bl true, .str r], .lst [.bl true, .str r], .lst [.bl true, .str r], .lst [.bl true, .str r]]) (.dead :: [(.exc "BadLevels" [("value", y)]), (.exc "BadLot" [("place", y)]), (.exc "BadRun" [("place", y)]), (.exc "BadPaper" [("word", y)]), (.exc "TooGreat" [("most", y)])]) := by
    refine Eq.trans (seqX (sp1 := [some y, some (.ref 0), none]) (S1 := [.lst []]) rfl) ?_
    refine Eq.trans (seqX (thr_0 y r hR)) ?_
    refine Eq.trans (seqX (thr_1 y r hR)) ?_
    refine Eq.trans (seqX (thr_2 y r hR)) ?_
    refine Eq.trans (seqX (thr_3 y r hR)) ?_
    refine Eq.trans (seqX (thr_4 y r hR)) ?_
    rfl
  exact ⟨_, by unfold bodyF; rw [e]⟩
instance rfR : RF eR := ⟨fun _ => rfl⟩
def n_l_thrown (v : QV) : RR (List (List QV)) := match reprR eQ v with
  | .ok r => .ok (List.replicate 5 [qV eB true, qV eR r])
  | _ => .stuck
theorem x_l_thrown (v : QV) : RV (p_l_thrown [eQ v]) (n_l_thrown v) (eL (eL eQ)) := by
  unfold n_l_thrown
  cases h : reprR eQ v with
  | stuck => trivial
  | exc x => trivial
  | ok r =>
    obtain ⟨S, q⟩ := thrown_eq (eQ v) r fun S => reprP_ok h S
    have hb : belows 0 [eQ v] = true := by
      show (below 0 v.1 && true) = true
      rw [v.2]; rfl
    show p_l_thrown [eQ v] = .ok (.lst [.lst [.bl true, .str r], .lst [.bl true, .str r], .lst [.bl true, .str r], .lst [.bl true, .str r], .lst [.bl true, .str r]])
    unfold p_l_thrown pureF
    rw [if_pos hb, q]
    rfl
def five (r : Str) : PV := .lst [.lst [.bl true, .str r], .lst [.bl true, .str r], .lst [.bl true, .str r], .lst [.bl true, .str r], .lst [.bl true, .str r]]
theorem five_ne (r : Str) (hr : PyData.strOk r = true) (S : Sto) : vNe (five r) (five r) S = some (.bl false, S) := by
  have d : dOf S (five r) = some (.list [.list [.bool true, .str r], .list [.bool true, .str r], .list [.bool true, .str r], .list [.bool true, .str r], .list [.bool true, .str r]]) := rfl
  have sh : SeqAt.shaped (.list [.list [.bool true, .str r], .list [.bool true, .str r], .list [.bool true, .str r], .list [.bool true, .str r], .list [.bool true, .str r]]) = true := by
    simp [SeqAt.shaped, PyData.canLay0, PyData.canLayAll0, hr, PyData.depth, PyData.depthAll]
  unfold vNe
  rw [d]
  simp only [sh, and_self, if_true]
  simp [PyData.eqv, PyData.eqvAll, eqv_str]
def n_l_same (v : QV) : RR Bool := match reprR eQ v with
  | .ok r => if PyData.strOk r = true then .ok false else .stuck
  | _ => .stuck
theorem x_l_same {sp : Sl} {L : Sto} (v : QV) (h3 : sp[3]? = some (some (eQ v))) : TV (stB (sx2 vNe (sxCall 1 m_l_thrown (saCons (sxVar 3) saNil)) (sx2 vMulT (sxN vLst (saCons (sxN vLst (saCons (sxC (.bl true)) (saCons (sxN vRepr (saCons (sxVar 3) saNil)) saNil))) saNil)) (sxC (.int 5))))) sp L (n_l_same v) := by
  have hx := x_l_thrown v
  unfold n_l_thrown at hx
  unfold n_l_same
  cases h : reprR eQ v with
  | stuck => trivial
  | exc x => trivial
  | ok r =>
    rw [h] at hx
    have hx : p_l_thrown [eQ v] = .ok (five r) := hx
    dsimp only
    by_cases hr : PyData.strOk r = true
    · rw [if_pos hr]
      have hv : sxVar 3 sp L = .ok (eQ v) L := by unfold sxVar; rw [h3]
      have ha : sxCall 1 m_l_thrown (saCons (sxVar 3) saNil) sp L = .ok (five r) L := by
        simp only [s_sxCall, s_saCons, s_saNil, hv, Out.bind, List.length_cons, List.length_nil, Nat.zero_add, if_true, m_l_thrown, liftP, hx]
      have hl : sxN vLst (saCons (sxN vLst (saCons (sxC (.bl true)) (saCons (sxN vRepr (saCons (sxVar 3) saNil)) saNil))) saNil) sp L = .ok (.lst [.lst [.bl true, .str r]]) L := by
        exact lst1_ok (lst_ok rfl (rp (fun S => reprP_ok h S) hv))
      have hm : vMulT (.lst [.lst [.bl true, .str r]]) (.int 5) L = some (five r, L) := by kernel_rfl
      have hb := two_ok (o := vMulT) (tb := sxC (.int 5)) hl rfl hm
      have hn := two_ok (o := vNe) ha hb (five_ne r hr L)
      show stB _ sp L = .ok false L
      simp only [s_stB, hn, Out.bind]
    · rw [if_neg hr]; trivial
def n_law_end : RR Bool := .ok true
theorem x_law_end (a0 : List Int) : GV (ssSeq (ssSet 4 (sxMk0 "LevelError" (sxC (.str "no levels")))) (ssSeq (ssIf (stOr (stB (sx2 vNe (sxCall 1 m_l_marks_of (saCons (sxVar 4) saNil)) (sx2 vMulT (sxN vLst (saCons (sxC (.bl false)) saNil)) (sxC (.int 9))))) (stB (sx2 vNe (sxCall 1 m_l_above (saCons (sxVar 4) saNil)) (sx2 vAdd (sxN vLst (saCons (sxC (.bl true)) (saCons (sxC (.bl true)) saNil))) (sx2 vMulT (sxN vLst (saCons (sxC (.bl false)) saNil)) (sxC (.int 4))))))) (ssRet (sxC (.bl false))) ssNil) (ssSeq (ssPar 5 6 (saCons (sxMkX "BadLot" "place" (sxN vTup (saCons (sxC (.int 0)) (saCons (sxC (.int 1)) saNil)))) (saCons (sxMkX "BadLot" "place" (sxN vTup (saCons (sxC (.int 0)) (saCons (sxC (.int 1)) saNil)))) saNil))) (ssRet (sx2 vEqS (sxN vRepr (saCons (sxN vLst (saCons (sxFld (["BadLot", "BadLevels", "BadRun", "BadDeed", "BadSplit", "BadFirm", "BadSeen", "BadPaper", "TooGreat", "LevelError"] : List Str) "place" (sxVar 5)) (saCons (sxFld (["BadLot", "BadLevels", "BadRun", "BadDeed", "BadSplit", "BadFirm", "BadSeen", "BadPaper", "TooGreat", "LevelError"] : List Str) "place" (sxVar 6)) (saCons (sxFld (["BadLot", "BadLevels", "BadRun", "BadDeed", "BadSplit", "BadFirm", "BadSeen", "BadPaper", "TooGreat", "LevelError"] : List Str) "place" (sxMkX "BadLot" "place" (sxC .non))) saNil)))) saNil)) (sxC (.str "[(0, 1), (0, 1), None]"))))))) [some (eL eI a0), none, none, none, none, none, none] [] n_law_end (JF eB) := .inl ⟨[.exc "LevelError" [], .exc "BadLot" [("place", .tup [.int 0, .int 1])], .exc "BadLot" [("place", .tup [.int 0, .int 1])], .exc "BadLot" [("place", .non)]], by kernel_rfl⟩
end K25
end
section
namespace K25
open PySem PySem.Spec PyProof.Rows L2 MX MS
def w_97_32_98 : W := ⟨"a b", by decide +kernel⟩
def w_closed : W := ⟨"closed", by decide +kernel⟩
def w_x : W := ⟨"x", by decide +kernel⟩
def n_l_things : WR Mc (List QV) := WR.nox fun m0 => (RR.bnd (.ok [(qV eN ()), (qV eI (0 : Int)), (qV eI (-(1 : Int))), (qV eI (5 : Int)), (qV eB true), (qV eB false), (qV eS w_), (qV eS w_late), (qV eS w_97_32_98), (⟨.tup [], rfl⟩ : QV), (qV (eV eI) [(0 : Int)]), (qV (eT2 eI eN) ((1 : Int), ())), (qV (eV eQ) [(qV (eT2 eI eI) ((0 : Int), (1 : Int))), (⟨.tup [], rfl⟩ : QV)]), (⟨.lst [], rfl⟩ : QV), (qV (eL eI) [(1 : Int)]), (⟨.dic [] [], rfl⟩ : QV), (⟨.dic [.inr "a"] [.int 1], rfl⟩ : QV)]) fun v1 => (RR.bnd (RR.bnd (.ok v1) fun v15 => RR.bnd (RR.bnd (RR.bnd (RR.bnd (if CPow (10 : Int) (30 : Int) then RR.ok ((10 : Int) ^ Int.toNat (30 : Int)) else .stuck) fun v2 => .ok (qV eI v2)) fun v13 => RR.bnd (RR.bnd (.ok (qV (eT3 eI eI (eV eI)) ((0 : Int), (1 : Int), [(1 : Int)]))) fun v11 => RR.bnd (RR.bnd (.ok (qV (eT2 eS eS) (w_look, w_a))) fun v9 => RR.bnd (RR.bnd (.ok (qV (eL (eT3 eI eI eN)) [((0 : Int), (0 : Int), ())])) fun v7 => RR.bnd (RR.bnd (.ok (qV eS w_closed)) fun v5 => RR.bnd (RR.bnd (.ok (qV (eT2 eN eN) ((), ()))) fun v3 => RR.bnd (.ok []) fun v4 => .ok (v3 :: v4)) fun v6 => .ok (v5 :: v6)) fun v8 => .ok (v7 :: v8)) fun v10 => .ok (v9 :: v10)) fun v12 => .ok (v11 :: v12)) fun v14 => .ok (v13 :: v14)) fitR) fun v16 => (fitR (v15 ++ v16))) fun v17 => (RR.bnd ((WR.bnd (WR.bnd (WR.of (rng1R (8 : Int))) fun v19 => WR.bnd (lcW (fun v18 => (WR.of (.ok true))) (fun v18 => (WR.nox (n_l_ofL v17))) v19) fun v20 => WR.of (fitR v20)) fun v36 => WR.bnd (WR.bnd (WR.bnd (WR.bnd (n_l_draw (99 : Int)) fun v26 => WR.of (.ok ((qV eI) v26))) fun v33 => WR.bnd (WR.bnd (WR.bnd (WR.bnd (n_l_draw (9 : Int)) fun v21 => WR.bnd (WR.of (.ok w_x)) fun v22 => WR.of (.ok (v21, v22))) fun v27 => WR.of (.ok ((qV (eT2 eI eS)) v27))) fun v31 => WR.bnd (WR.bnd (WR.bnd (WR.bnd (WR.bnd (n_l_draw (9 : Int)) fun v23 => WR.bnd (WR.of (.ok [])) fun v24 => WR.of (.ok (v23 :: v24))) fun v25 => WR.of (fitR v25)) fun v28 => WR.of (.ok ((qV (eL eI)) v28))) fun v29 => WR.bnd (WR.of (.ok [])) fun v30 => WR.of (.ok (v29 :: v30))) fun v32 => WR.of (.ok (v31 :: v32))) fun v34 => WR.of (.ok (v33 :: v34))) fun v35 => WR.of (fitR v35)) fun v37 => WR.of (fitR (v36 ++ v37))) m0) fun v38 => .ok v38)))
theorem x_l_things : RVO p_l_things machO [] (n_l_things) (eL eQ) := rvo_fn (t := t_l_things) (by simp only [belows, RF.b, Bool.and_self]) machO_b fun m0 => (gv_set (ev_llk (av_const (ev_anqt (ev_c (ea := eN) (a := ()) rfl)) (av_const (ev_anqt (ev_c (ea := eI) (a := 0) rfl)) (av_const (ev_anqt (ev_1t (g := fun (x : Int) => -x) o_negI (ev_c (ea := eI) (a := 1) rfl))) (av_const (ev_anqt (ev_c (ea := eI) (a := 5) rfl)) (av_const (ev_anqt (ev_c (ea := eB) (a := true) rfl)) (av_const (ev_anqt (ev_c (ea := eB) (a := false) rfl)) (av_const (ev_anqt (ev_c (ea := eS) (a := w_) rfl)) (av_const (ev_anqt (ev_c (ea := eS) (a := w_late) rfl)) (av_const (ev_anqt (ev_c (ea := eS) (a := w_97_32_98) rfl)) (av_const (ev_nilP) (av_const (ev_anqt (ev_tvk (av_const (ev_c (ea := eI) (a := 0) rfl) (av_nilm (e := eI))) rfl)) (av_const (ev_anqt (ev_t2t (ev_c (ea := eI) (a := 1) rfl) (ev_c (ea := eN) (a := ()) rfl))) (av_const (ev_anqt (ev_tvk (av_const (ev_anqt (ev_t2t (ev_c (ea := eI) (a := 0) rfl) (ev_c (ea := eI) (a := 1) rfl))) (av_const (ev_nilP) (av_nilm (e := eQ)))) rfl)) (av_const (ev_nilPL) (av_const (ev_anqt (ev_llk (av_const (ev_c (ea := eI) (a := 1) rfl) (av_nilm (e := eI))) rfl)) (av_const ev_dicE (av_const rfl (av_nilm (e := eQ))))))))))))))))))) rfl) (fun v1 => (gv_set (ev_2 (f := fun (x : (List QV)) (y : (List QV)) => (fitR (x ++ y))) (o_addL (e := eQ)) (ev_var (ea := (eL eQ)) (a := v1) rfl) (ev_ll (av_consm (ev_anq (ev_2p (f := fun (x : Int) (y : Int) => (if CPow x y then RR.ok (x ^ Int.toNat y) else .stuck)) o_powI (ev_c (ea := eI) (a := 10) rfl) (ev_c (ea := eI) (a := 30) rfl))) (av_consm (ev_anqt (ev_t3t (ev_c (ea := eI) (a := 0) rfl) (ev_c (ea := eI) (a := 1) rfl) (ev_tvk (av_const (ev_c (ea := eI) (a := 1) rfl) (av_nilm (e := eI))) rfl))) (av_consm (ev_anqt (ev_t2t (ev_c (ea := eS) (a := w_look) rfl) (ev_c (ea := eS) (a := w_a) rfl))) (av_consm (ev_anqt (ev_llk (av_const (ev_t3t (ev_c (ea := eI) (a := 0) rfl) (ev_c (ea := eI) (a := 0) rfl) (ev_c (ea := eN) (a := ()) rfl)) (av_nilm (e := (eT3 eI eI eN)))) rfl)) (av_consm (ev_anqt (ev_c (ea := eS) (a := w_closed) rfl)) (av_consm (ev_anqt (ev_t2t (ev_c (ea := eN) (a := ()) rfl) (ev_c (ea := eN) (a := ()) rfl))) (av_nilm (e := eQ)))))))))) (fun v17 => (gv_last (gv_retW (F := fun mm => [machO mm]) (m := m0) (g := fun p => p) (zw_2 (f := fun (x : (List QV)) (y : (List QV)) => (fitR (x ++ y))) (o_addL (e := eQ)) (zw_lc (ea := eI) (ec := eQ) (zw_ofI fun _ => (iv_range1t (ev_c (ea := eI) (a := 8) rfl))) (fun _ _ => rfl) (fun v18 => (zw_ofT fun _ => tv_yes)) (fun v18 => (zw_callOk (ec := eQ) (x_l_ofL (e := eQ) v17) rfl (fun _ => rfl) (fun _ _ => rfl) machO_nd (fun _ => (ae_cons (ev_var (ea := (eL eQ)) (a := v17) rfl) ae_nil)) rfl))) (zw_ll (e := eQ) (zw_consm (e := eQ) (zw_map (g := (qV eI)) (ea := eI) (eb := eQ) (fun _ => rfl) (zw_callOk (ec := eI) (x_l_draw (99 : Int)) rfl (fun _ => rfl) (fun _ _ => rfl) machO_nd (fun _ => (ae_cons (ev_c (ea := eI) (a := 99) rfl) ae_nil)) rfl)) (zw_consm (e := eQ) (zw_map (g := (qV (eT2 eI eS))) (ea := (eT2 eI eS)) (eb := eQ) (fun _ => rfl) (zw_t2 (zw_callOk (ec := eI) (x_l_draw (9 : Int)) rfl (fun _ => rfl) (fun _ _ => rfl) machO_nd (fun _ => (ae_cons (ev_c (ea := eI) (a := 9) rfl) ae_nil)) rfl) (zw_of fun _ => (ev_c (ea := eS) (a := w_x) rfl)))) (zw_consm (e := eQ) (zw_map (g := (qV (eL eI))) (ea := (eL eI)) (eb := eQ) (fun _ => rfl) (zw_ll (e := eI) (zw_consm (e := eI) (zw_callOk (ec := eI) (x_l_draw (9 : Int)) rfl (fun _ => rfl) (fun _ _ => rfl) machO_nd (fun _ => (ae_cons (ev_c (ea := eI) (a := 9) rfl) ae_nil)) rfl) zw_nilm))) zw_nilm))))) (fun _ => jfo_rt' rfl)))))))
def n_law (a0 : List Int) : RR Bool := (RR.bnd (rng1R ((2 : Int) + (if (6 : Int) < (a0.length : Int) then (6 : Int) else (a0.length : Int)))) fun v25 => RR.bnd (forR (fun v1 v2 => (RR.bnd (n_l_begun a0 v1) fun v3 => (RR.bnd ((n_l_things) v3) fun v4 => (RR.bnd (forR (fun v5 v6 => (RR.bnd (RR.bnd (RR.bnd (n_l_made_right v5) fun v7 => .ok (!v7)) fun v19 => if v19 = true then .ok true else (n_l_same v5)) fun v20 => if v20 = true then .ok (.rt false) else .ok (.nx ()))) v4.1 ()) (forK (fun v21 => .ok (.nx ())) Rz.rt))))) v25 ()) (forK (fun v22 => n_law_end) (fun v => v)))
theorem x_law (a0 : List Int) : GV t_law (startP 7 [eL eI a0]) [] (n_law a0) (JF eB) := (gv_wpS (gv_forB (ea := eI) (A := (fun v2 : Unit => ([some ((eL eI) a0), none, none, none, none, none, none], []))) (s0 := ()) (ρ := Bool) (er := eB) (iv_range1t (ev_2t (g := fun (x : Int) (y : Int) => (x + y)) o_addI (ev_c (ea := eI) (a := 2) rfl) (ev_n2t (g := fun a b => if b < a then b else a) o_min2 (ev_n1t (g := fun (x : (List Int)) => (x.length : Int)) (o_lenL (e := eI)) (ev_var (ea := (eL eI)) (a := a0) rfl)) (ev_c (ea := eI) (a := 6) rfl)))) rfl (fun v1 v2 => ⟨_, rfl, gv_locB (gv_makek (so := machO) (x_l_begun a0 v1) (ae_cons (ev_var (ea := (eL eI)) (a := a0) rfl) (ae_cons (ev_var (ea := eI) (a := v1) rfl) ae_nil)) rfl (fun v3 => (gv_last (gv_wpS (gv_forW (F := fun mm => [machO mm]) (m := v3) (zw_seqL (zw_callOk (ec := (eL eQ)) (x_l_things) rfl (fun _ => rfl) (fun _ _ => rfl) machO_nd (fun _ => ae_nil) rfl)) (fun v4 => (gv_forBt (ea := eQ) (A := (fun v6 : Unit => ([some ((eL eI) a0), some (eI v1), some (.ref 0), none, none, none, none], [machO v4.2]))) (s0 := ()) (ρ := Bool) (er := eB) iv_it rfl (fun v5 v6 => ⟨_, rfl, gv_endB (gv_last (gv_if (tv_or (tv_not (tv_val (ev_call1t x_l_made_right (ev_var (ea := eQ) (a := v5) rfl)))) (x_l_same v5 rfl)) (gv_rett (ev_c (ea := eB) (a := false) rfl) ⟨_, rfl⟩) (gv_skip (gv_nil ⟨_, _, rfl, rfl⟩))))⟩) (fun v21 => (gv_nil ⟨_, _, rfl, (scope_some rfl rfl rfl (slb_v (e := (eL eI)) (a := a0) (slb_none (slb_none (slb_none (slb_none (slb_none (slb_none slb_nil))))))) bo_nil)⟩)) (g := Rz.rt) (fun _ _ => ⟨_, rfl⟩))))))))⟩) (fun v22 => (x_law_end a0)) (g := (fun v => v)) (fun _ _ => jf_rt)))
end K25
end
section
namespace K25
open PySem PySem.Spec PyProof.Rows L2 MX MS
def top (i : Nat) : Stmt := PySem.Challenge.pw_mixedlevels_k25_exceptions.main.body.getD i (.Pass ⟨0, 0, 0, 0⟩)
abbrev ex_BadDeed : ExD := ⟨"BadDeed", "value", "BadDeed.__init__", defArgs (clsFn (top 5)), defBody (clsFn (top 5)), defScope (clsFn (top 5)), "ValueError", "ValueError.__new__", "ValueError.__init__", [.type "ValueError", .type "Exception", .type "BaseException", .type "object"]⟩
theorem sh_BadDeed : InitShape ex_BadDeed.f ex_BadDeed.params ex_BadDeed.body ex_BadDeed.scope := initS_by (m := "not a deed") rfl (by decide +kernel) (fun _ _ _ _ _ _ _ _ _ _ _ => rfl) (by decide +kernel)
abbrev ex_BadFirm : ExD := ⟨"BadFirm", "value", "BadFirm.__init__", defArgs (clsFn (top 7)), defBody (clsFn (top 7)), defScope (clsFn (top 7)), "ValueError", "ValueError.__new__", "ValueError.__init__", [.type "ValueError", .type "Exception", .type "BaseException", .type "object"]⟩
theorem sh_BadFirm : InitShape ex_BadFirm.f ex_BadFirm.params ex_BadFirm.body ex_BadFirm.scope := initS_by (m := "not such looks") rfl (by decide +kernel) (fun _ _ _ _ _ _ _ _ _ _ _ => rfl) (by decide +kernel)
abbrev ex_BadLevels : ExD := ⟨"BadLevels", "value", "BadLevels.__init__", defArgs (clsFn (top 3)), defBody (clsFn (top 3)), defScope (clsFn (top 3)), "ValueError", "ValueError.__new__", "ValueError.__init__", [.type "ValueError", .type "Exception", .type "BaseException", .type "object"]⟩
theorem sh_BadLevels : InitShape ex_BadLevels.f ex_BadLevels.params ex_BadLevels.body ex_BadLevels.scope := initS_by (m := "not levels") rfl (by decide +kernel) (fun _ _ _ _ _ _ _ _ _ _ _ => rfl) (by decide +kernel)
abbrev ex_BadLot : ExD := ⟨"BadLot", "place", "BadLot.__init__", defArgs (clsFn (top 2)), defBody (clsFn (top 2)), defScope (clsFn (top 2)), "ValueError", "ValueError.__new__", "ValueError.__init__", [.type "ValueError", .type "Exception", .type "BaseException", .type "object"]⟩
theorem sh_BadLot : InitShape ex_BadLot.f ex_BadLot.params ex_BadLot.body ex_BadLot.scope := initS_by (m := "not a lot") rfl (by decide +kernel) (fun _ _ _ _ _ _ _ _ _ _ _ => rfl) (by decide +kernel)
abbrev ex_BadPaper : ExD := ⟨"BadPaper", "word", "BadPaper.__init__", defArgs (clsFn (top 9)), defBody (clsFn (top 9)), defScope (clsFn (top 9)), "ValueError", "ValueError.__new__", "ValueError.__init__", [.type "ValueError", .type "Exception", .type "BaseException", .type "object"]⟩
theorem sh_BadPaper : InitShape ex_BadPaper.f ex_BadPaper.params ex_BadPaper.body ex_BadPaper.scope := initS_by (m := "not a paper that holds") rfl (by decide +kernel) (fun _ _ _ _ _ _ _ _ _ _ _ => rfl) (by decide +kernel)
abbrev ex_BadRun : ExD := ⟨"BadRun", "place", "BadRun.__init__", defArgs (clsFn (top 4)), defBody (clsFn (top 4)), defScope (clsFn (top 4)), "ValueError", "ValueError.__new__", "ValueError.__init__", [.type "ValueError", .type "Exception", .type "BaseException", .type "object"]⟩
theorem sh_BadRun : InitShape ex_BadRun.f ex_BadRun.params ex_BadRun.body ex_BadRun.scope := initS_by (m := "not a run") rfl (by decide +kernel) (fun _ _ _ _ _ _ _ _ _ _ _ => rfl) (by decide +kernel)
abbrev ex_BadSeen : ExD := ⟨"BadSeen", "value", "BadSeen.__init__", defArgs (clsFn (top 8)), defBody (clsFn (top 8)), defScope (clsFn (top 8)), "ValueError", "ValueError.__new__", "ValueError.__init__", [.type "ValueError", .type "Exception", .type "BaseException", .type "object"]⟩
theorem sh_BadSeen : InitShape ex_BadSeen.f ex_BadSeen.params ex_BadSeen.body ex_BadSeen.scope := initS_by (m := "not what was seen") rfl (by decide +kernel) (fun _ _ _ _ _ _ _ _ _ _ _ => rfl) (by decide +kernel)
abbrev ex_BadSplit : ExD := ⟨"BadSplit", "value", "BadSplit.__init__", defArgs (clsFn (top 6)), defBody (clsFn (top 6)), defScope (clsFn (top 6)), "ValueError", "ValueError.__new__", "ValueError.__init__", [.type "ValueError", .type "Exception", .type "BaseException", .type "object"]⟩
theorem sh_BadSplit : InitShape ex_BadSplit.f ex_BadSplit.params ex_BadSplit.body ex_BadSplit.scope := initS_by (m := "not a split") rfl (by decide +kernel) (fun _ _ _ _ _ _ _ _ _ _ _ => rfl) (by decide +kernel)
abbrev ex_TooGreat : ExD := ⟨"TooGreat", "most", "TooGreat.__init__", defArgs (clsFn (top 10)), defBody (clsFn (top 10)), defScope (clsFn (top 10)), "OverflowError", "OverflowError.__new__", "OverflowError.__init__", [.type "OverflowError", .type "ArithmeticError", .type "Exception", .type "BaseException", .type "object"]⟩
theorem sh_TooGreat : InitShape ex_TooGreat.f ex_TooGreat.params ex_TooGreat.body ex_TooGreat.scope := initS_by (m := "too great") rfl (by decide +kernel) (fun _ _ _ _ _ _ _ _ _ _ _ => rfl) (by decide +kernel)
structure Txt (P : Program) (K : PySem.W.Frag) (mg : Str → Option Value) (base : Heap) : Prop where
  tops : (P.main.scope.names.lookup ("super" : Str)).isSome = false
  x_BadDeed : ExI P K (He.ga K "BadDeed") ex_BadDeed.B ex_BadDeed.newId ex_BadDeed.i ex_BadDeed.bm ex_BadDeed.f
  x_BadFirm : ExI P K (He.ga K "BadFirm") ex_BadFirm.B ex_BadFirm.newId ex_BadFirm.i ex_BadFirm.bm ex_BadFirm.f
  x_BadLevels : ExI P K (He.ga K "BadLevels") ex_BadLevels.B ex_BadLevels.newId ex_BadLevels.i ex_BadLevels.bm ex_BadLevels.f
  x_BadLot : ExI P K (He.ga K "BadLot") ex_BadLot.B ex_BadLot.newId ex_BadLot.i ex_BadLot.bm ex_BadLot.f
  x_BadPaper : ExI P K (He.ga K "BadPaper") ex_BadPaper.B ex_BadPaper.newId ex_BadPaper.i ex_BadPaper.bm ex_BadPaper.f
  x_BadRun : ExI P K (He.ga K "BadRun") ex_BadRun.B ex_BadRun.newId ex_BadRun.i ex_BadRun.bm ex_BadRun.f
  x_BadSeen : ExI P K (He.ga K "BadSeen") ex_BadSeen.B ex_BadSeen.newId ex_BadSeen.i ex_BadSeen.bm ex_BadSeen.f
  x_BadSplit : ExI P K (He.ga K "BadSplit") ex_BadSplit.B ex_BadSplit.newId ex_BadSplit.i ex_BadSplit.bm ex_BadSplit.f
  x_TooGreat : ExI P K (He.ga K "TooGreat") ex_TooGreat.B ex_TooGreat.newId ex_TooGreat.i ex_TooGreat.bm ex_TooGreat.f
  g_BadDeed : mg "BadDeed" = some (.ref (He.ga K "BadDeed"))
  g_BadFirm : mg "BadFirm" = some (.ref (He.ga K "BadFirm"))
  g_BadLevels : mg "BadLevels" = some (.ref (He.ga K "BadLevels"))
  g_BadLot : mg "BadLot" = some (.ref (He.ga K "BadLot"))
  g_BadPaper : mg "BadPaper" = some (.ref (He.ga K "BadPaper"))
  g_BadRun : mg "BadRun" = some (.ref (He.ga K "BadRun"))
  g_BadSeen : mg "BadSeen" = some (.ref (He.ga K "BadSeen"))
  g_BadSplit : mg "BadSplit" = some (.ref (He.ga K "BadSplit"))
  g_LevelError : mg "LevelError" = some (.ref (He.ga K "LevelError"))
  g_TooGreat : mg "TooGreat" = some (.ref (He.ga K "TooGreat"))
  ask : Ask K mg ["most", "place", "value", "word"] ([("BadLot", ["BadLot", "LevelError"]), ("BadLevels", ["BadLevels", "LevelError"]), ("BadRun", ["BadRun", "LevelError"]), ("BadDeed", ["BadDeed", "LevelError"]), ("BadSplit", ["BadSplit", "LevelError"]), ("BadFirm", ["BadFirm", "LevelError"]), ("BadSeen", ["BadSeen", "LevelError"]), ("BadPaper", ["BadPaper", "LevelError"]), ("TooGreat", ["TooGreat"]), ("LevelError", ["LevelError"])] : List (Str × List Str)) ["BadDeed", "BadFirm", "BadLevels", "BadLot", "BadPaper", "BadRun", "BadSeen", "BadSplit", "LevelError", "TooGreat"]
  askT : AskT K mg ([("BadLot", ["ValueError"]), ("BadLevels", ["ValueError"]), ("BadRun", ["ValueError"]), ("BadDeed", ["ValueError"]), ("BadSplit", ["ValueError"]), ("BadFirm", ["ValueError"]), ("BadSeen", ["ValueError"]), ("BadPaper", ["ValueError"]), ("TooGreat", ["OverflowError"]), ("LevelError", ["ValueError"])] : List (Str × List Str)) [("LookupError", "LookupError"), ("OverflowError", "OverflowError"), ("RuntimeError", "RuntimeError"), ("TypeError", "TypeError"), ("ValueError", "ValueError")]
  z_LevelError : PySem.W.excIn K (He.ga K "LevelError") [.type "ValueError", .type "Exception", .type "BaseException", .type "object"] "ValueError.__new__" = true ∧ PySem.W.keepIn K (.ref (He.ga K "LevelError")) = true
  f_LookupError : mg "LookupError" = none
  f_OverflowError : mg "OverflowError" = none
  f_RuntimeError : mg "RuntimeError" = none
  f_TypeError : mg "TypeError" = none
  f_ValueError : mg "ValueError" = none
  f_enumerate : mg "enumerate" = none
  f_int : mg "int" = none
  f_isinstance : mg "isinstance" = none
  f_len : mg "len" = none
  f_min : mg "min" = none
  f_range : mg "range" = none
  f_repr : mg "repr" = none
  f_super : mg "super" = none
  g_l_begun : mg "_law_begun" = some (.ref (He.ga K "_law_begun"))
  F_l_begun : FunD K "_law_begun" "_law_begun" (defArgs (top 12)) (defBody (top 12)) (defScope (top 12)) [] [] (He.ga K "_law_begun") (fdOf K (He.ga K "_law_begun"))
  b_l_begun : Binds K (fdOf K (He.ga K "_law_begun")) ["_law_script", "_law_k"] []
  g_l_draw : mg "_law_draw" = some (.ref (He.ga K "_law_draw"))
  F_l_draw : FunD K "_law_draw" "_law_draw" (defArgs (top 13)) (defBody (top 13)) (defScope (top 13)) [] [] (He.ga K "_law_draw") (fdOf K (He.ga K "_law_draw"))
  b_l_draw : Binds K (fdOf K (He.ga K "_law_draw")) ["_law_m", "_law_many"] []
  g_l_of : mg "_law_of" = some (.ref (He.ga K "_law_of"))
  F_l_of : FunD K "_law_of" "_law_of" (defArgs (top 14)) (defBody (top 14)) (defScope (top 14)) [] [] (He.ga K "_law_of") (fdOf K (He.ga K "_law_of"))
  b_l_of : Binds K (fdOf K (He.ga K "_law_of")) ["_law_m", "_law_some"] []
  g_l_things : mg "_law_things" = some (.ref (He.ga K "_law_things"))
  F_l_things : FunD K "_law_things" "_law_things" (defArgs (top 15)) (defBody (top 15)) (defScope (top 15)) [] [] (He.ga K "_law_things") (fdOf K (He.ga K "_law_things"))
  b_l_things : Binds K (fdOf K (He.ga K "_law_things")) ["_law_m"] []
  g_l_pairs : mg "_law_pairs" = some (.ref (He.ga K "_law_pairs"))
  F_l_pairs : FunD K "_law_pairs" "_law_pairs" (defArgs (top 16)) (defBody (top 16)) (defScope (top 16)) [] [] (He.ga K "_law_pairs") (fdOf K (He.ga K "_law_pairs"))
  b_l_pairs : Binds K (fdOf K (He.ga K "_law_pairs")) ["_law_thing_so"] []
  g_l_field : mg "_law_field" = some (.ref (He.ga K "_law_field"))
  F_l_field : FunD K "_law_field" "_law_field" (defArgs (top 17)) (defBody (top 17)) (defScope (top 17)) [] [] (He.ga K "_law_field") (fdOf K (He.ga K "_law_field"))
  b_l_field : Binds K (fdOf K (He.ga K "_law_field")) ["_law_spot", "_law_error"] []
  g_l_marks_of : mg "_law_marks_of" = some (.ref (He.ga K "_law_marks_of"))
  F_l_marks_of : FunD K "_law_marks_of" "_law_marks_of" (defArgs (top 18)) (defBody (top 18)) (defScope (top 18)) [] [] (He.ga K "_law_marks_of") (fdOf K (He.ga K "_law_marks_of"))
  b_l_marks_of : Binds K (fdOf K (He.ga K "_law_marks_of")) ["_law_error"] []
  g_l_above : mg "_law_above" = some (.ref (He.ga K "_law_above"))
  F_l_above : FunD K "_law_above" "_law_above" (defArgs (top 19)) (defBody (top 19)) (defScope (top 19)) [] [] (He.ga K "_law_above") (fdOf K (He.ga K "_law_above"))
  b_l_above : Binds K (fdOf K (He.ga K "_law_above")) ["_law_error"] []
  g_l_made_right : mg "_law_made_right" = some (.ref (He.ga K "_law_made_right"))
  F_l_made_right : FunD K "_law_made_right" "_law_made_right" (defArgs (top 20)) (defBody (top 20)) (defScope (top 20)) [] [] (He.ga K "_law_made_right") (fdOf K (He.ga K "_law_made_right"))
  b_l_made_right : Binds K (fdOf K (He.ga K "_law_made_right")) ["_law_thing_so"] []
  g_l_thrown : mg "_law_thrown" = some (.ref (He.ga K "_law_thrown"))
  F_l_thrown : FunD K "_law_thrown" "_law_thrown" (defArgs (top 21)) (defBody (top 21)) (defScope (top 21)) [] [] (He.ga K "_law_thrown") (fdOf K (He.ga K "_law_thrown"))
  b_l_thrown : Binds K (fdOf K (He.ga K "_law_thrown")) ["_law_error_so"] []
  g_law : mg "law" = some (.ref (He.ga K "law"))
  F_law : FunD K "law" "law" (defArgs (top 22)) (defBody (top 22)) (defScope (top 22)) [] [] (He.ga K "law") (fdOf K (He.ga K "law"))
  b_law : Binds K (fdOf K (He.ga K "law")) ["_law_script"] []
theorem Txt.k_l_begun {P : Program} {K : PySem.W.Frag} {mg : Str → Option Value} {base : Heap} (T : Txt P K mg base) : PySem.W.keepIn K (.ref (He.ga K "_law_begun")) = true := T.F_l_begun.kp
theorem Txt.k_l_draw {P : Program} {K : PySem.W.Frag} {mg : Str → Option Value} {base : Heap} (T : Txt P K mg base) : PySem.W.keepIn K (.ref (He.ga K "_law_draw")) = true := T.F_l_draw.kp
theorem Txt.k_l_of {P : Program} {K : PySem.W.Frag} {mg : Str → Option Value} {base : Heap} (T : Txt P K mg base) : PySem.W.keepIn K (.ref (He.ga K "_law_of")) = true := T.F_l_of.kp
theorem Txt.k_l_things {P : Program} {K : PySem.W.Frag} {mg : Str → Option Value} {base : Heap} (T : Txt P K mg base) : PySem.W.keepIn K (.ref (He.ga K "_law_things")) = true := T.F_l_things.kp
theorem Txt.k_l_pairs {P : Program} {K : PySem.W.Frag} {mg : Str → Option Value} {base : Heap} (T : Txt P K mg base) : PySem.W.keepIn K (.ref (He.ga K "_law_pairs")) = true := T.F_l_pairs.kp
theorem Txt.k_l_field {P : Program} {K : PySem.W.Frag} {mg : Str → Option Value} {base : Heap} (T : Txt P K mg base) : PySem.W.keepIn K (.ref (He.ga K "_law_field")) = true := T.F_l_field.kp
theorem Txt.k_l_marks_of {P : Program} {K : PySem.W.Frag} {mg : Str → Option Value} {base : Heap} (T : Txt P K mg base) : PySem.W.keepIn K (.ref (He.ga K "_law_marks_of")) = true := T.F_l_marks_of.kp
theorem Txt.k_l_above {P : Program} {K : PySem.W.Frag} {mg : Str → Option Value} {base : Heap} (T : Txt P K mg base) : PySem.W.keepIn K (.ref (He.ga K "_law_above")) = true := T.F_l_above.kp
theorem Txt.k_l_made_right {P : Program} {K : PySem.W.Frag} {mg : Str → Option Value} {base : Heap} (T : Txt P K mg base) : PySem.W.keepIn K (.ref (He.ga K "_law_made_right")) = true := T.F_l_made_right.kp
theorem Txt.k_l_thrown {P : Program} {K : PySem.W.Frag} {mg : Str → Option Value} {base : Heap} (T : Txt P K mg base) : PySem.W.keepIn K (.ref (He.ga K "_law_thrown")) = true := T.F_l_thrown.kp
variable {P : Program} {w : World} {K : PySem.W.Frag} {mg : Str → Option Value} {base : Heap}
theorem sc_l_begun : FnScope ["_law_script", "_law_k", "_law_cells", "_law_great", "_law_seed", "_law_cell"] ["_law_script", "_law_k"] (defScope (top 12)) := ⟨rfl, rfl, rfl, by decide +kernel, rfl, by decide +kernel, by decide +kernel⟩
theorem raw_l_begun (T : Txt P K mg base) : FnG P w K mg base 1 (He.ga K "_law_begun") (fdOf K (He.ga K "_law_begun")) ["_law_script", "_law_k"] (bodyF 6 t_l_begun) :=
  fn_g T.F_l_begun sc_l_begun fun cdv A outer s H E hr hgd => (ss_cons (ss_set 2 sc_l_begun.nd (se_bin op_add' (se_sl sl_any (se_var 0) (so_part (se_var 1)) so_no) (se_sl sl_any (se_var 0) so_no (so_part (se_var 1))))) (ss_cons (ss_setLc 3 [("_law_cell", 5)] fin_fz rfl sc_l_begun.nd (si_seq (se_var 2)) (blkOk_by (N := ["_law_script", "_law_k", "_law_cells", "_law_great", "_law_seed", "_law_cell"]) (sc := defScope (top 12)) (by decide +kernel)) (fun _ _ _ _ _ => (sg_name 5 sc_l_begun.nd)) (fun _ _ _ _ _ => (pts_0 (st_cmp op_ge' (se_var 5) (se_bin op_pow' se_int se_int)))) (fun _ _ _ _ _ => pe_0 (se_var 5))) (ss_cons (ss_set 4 sc_l_begun.nd (se_bin op_add' se_int (se_var 1))) (ss_cons (ss_wp [5] (ss_for passB rfl (si_seq (se_var 2)) (sg_name 5 sc_l_begun.nd) (ss_end [5] (ss_one (ss_set 4 sc_l_begun.nd (se_bin op_mod' (se_callTy cl_int rfl T.f_int (by decide +kernel) (sa_cons (se_bin op_add' (se_bin op_mulT (se_var 4) se_int) (se_var 5)) sa_nil)) se_int)))))) (ss_one (ss_ret (se_disp (ts := [((sxC (.str "left")), (sxIf (stB (sx2 vNe (sxVar 3) (sxN vLst saNil))) (sx2 vItem (sxVar 3) (sxC (.int 0))) (sxC (.int 0)))), ((sxC (.str "seed")), (sxVar 4)), ((sxC (.str "cells")), (sx2 vAdd (sxVar 2) (sxN vLst (saCons (sx2 vAdd (sx2 vMulT (sxC (.int 29)) (sxVar 1)) (sxC (.int 7))) saNil)))), ((sxC (.str "spot")), (sxC (.int 0)))]) (pps_cons se_str (se_if (st_cmp (op_ne' (hu64 hr)) (se_var 3) (se_lst sa_nil)) (se_ix ix_item (se_var 3) se_int) se_int) (pps_cons se_str (se_var 4) (pps_cons se_str (se_bin op_add' (se_var 2) (se_lst (sa_cons (se_bin op_add' (se_bin op_mulT se_int (se_var 1)) se_int) sa_nil))) (pps_cons se_str se_int pps_nil)))))))))))
theorem ok_l_begun (T : Txt P K mg base) : FnG P w K mg base 1 (He.ga K "_law_begun") (fdOf K (He.ga K "_law_begun")) ["_law_script", "_law_k"] m_l_begun := (raw_l_begun T).make
theorem sc_l_draw : FnScope ["_law_m", "_law_many", "_law_found", "_law_spot", "_law_cells", "_law_added", "_law_cell", "_law_blend"] ["_law_m", "_law_many"] (defScope (top 13)) := ⟨rfl, rfl, rfl, by decide +kernel, rfl, by decide +kernel, by decide +kernel⟩
theorem raw_l_draw (T : Txt P K mg base) : FnG P w K mg base 1 (He.ga K "_law_draw") (fdOf K (He.ga K "_law_draw")) ["_law_m", "_law_many"] (bodyF 8 t_l_draw) :=
  fn_g T.F_l_draw sc_l_draw fun cdv A outer s H E hr hgd => (ss_cons (ss_if (st_cmp op_gt' (se_dget (hu1 hr) (se_var 0) se_str) se_int) (ss_cons (ss_set 2 sc_l_draw.nd (se_bin op_mod' (se_callTy cl_int rfl T.f_int (by decide +kernel) (sa_cons (se_dget (hu1 hr) (se_var 0) se_str) sa_nil)) (se_var 1))) (ss_cons (ss_sub (hu1 hr) (se_var 0) se_str (se_bin op_fdiv' (se_dget (hu1 hr) (se_var 0) se_str) (se_var 1))) (ss_one (ss_ret (se_var 2))))) ss_nil) (ss_cons (ss_set 3 sc_l_draw.nd (se_dget (hu1 hr) (se_var 0) se_str)) (ss_cons (ss_sub (hu1 hr) (se_var 0) se_str (se_bin op_add' (se_var 3) se_int)) (ss_cons (ss_par 4 5 rfl sc_l_draw.nd (sa_cons (se_dget (hu1 hr) (se_var 0) se_str) (sa_cons (se_bin op_add' (se_dget (hu1 hr) (se_var 0) se_str) (se_bin op_mulT (se_bin op_mulT se_int (se_var 3)) (se_var 3))) sa_nil))) (ss_cons (ss_set 6 sc_l_draw.nd (se_ix ix_item (se_var 4) (se_bin op_mod' (se_callTy cl_int rfl T.f_int (by decide +kernel) (sa_cons (se_var 3) sa_nil)) (se_callB (cl_len) rfl T.f_len (by decide +kernel) (sa_cons (se_var 4) sa_nil))))) (ss_cons (ss_set 7 sc_l_draw.nd (se_bin op_mod' (se_callTy cl_int rfl T.f_int (by decide +kernel) (sa_cons (se_bin op_add' (se_bin op_mulT (se_var 6) (se_bin op_add' (se_bin op_mulT se_int (se_var 3)) se_int)) (se_var 5)) sa_nil)) se_int)) (ss_cons (ss_set 7 sc_l_draw.nd (se_bin op_mod' (se_callTy cl_int rfl T.f_int (by decide +kernel) (sa_cons (se_bin op_add' (se_bin op_add' (se_bin op_mulT (se_var 7) (se_var 7)) (se_bin op_mulT se_int (se_var 3))) (se_dget (hu1 hr) (se_var 0) se_str)) sa_nil)) se_int)) (ss_one (ss_ret (se_bin op_mod' (se_bin op_fdiv' (se_bin op_mod' (se_callTy cl_int rfl T.f_int (by decide +kernel) (sa_cons (se_bin op_add' (se_bin op_mulT (se_var 7) se_int) (se_var 3)) sa_nil)) se_int) se_int) (se_var 1)))))))))))
theorem ok_l_draw (T : Txt P K mg base) : FnG P w K mg base 1 (He.ga K "_law_draw") (fdOf K (He.ga K "_law_draw")) ["_law_m", "_law_many"] m_l_draw := (raw_l_draw T).obj
theorem sc_l_of : FnScope ["_law_m", "_law_some"] ["_law_m", "_law_some"] (defScope (top 14)) := ⟨rfl, rfl, rfl, by decide +kernel, rfl, by decide +kernel, by decide +kernel⟩
theorem raw_l_of (T : Txt P K mg base) : FnG P w K mg base 2 (He.ga K "_law_of") (fdOf K (He.ga K "_law_of")) ["_law_m", "_law_some"] (bodyF 2 t_l_of) :=
  fn_g T.F_l_of sc_l_of fun cdv A outer s H E hr hgd => (ss_one (ss_ret (se_ix ix_item (se_var 1) (se_call (ok_l_draw T) (hr.mono (by decide)) hgd rfl T.g_l_draw T.k_l_draw T.b_l_draw (sa_cons (se_var 0) (sa_cons (se_callB (cl_len) rfl T.f_len (by decide +kernel) (sa_cons (se_var 1) sa_nil)) sa_nil))))))
theorem ok_l_of (T : Txt P K mg base) : FnG P w K mg base 2 (He.ga K "_law_of") (fdOf K (He.ga K "_law_of")) ["_law_m", "_law_some"] m_l_of := (raw_l_of T).obj
theorem sc_l_things : FnScope ["_law_m", "_law_some", "_law_turn"] ["_law_m"] (defScope (top 15)) := ⟨rfl, rfl, rfl, by decide +kernel, rfl, by decide +kernel, by decide +kernel⟩
theorem raw_l_things (T : Txt P K mg base) : FnG P w K mg base 3 (He.ga K "_law_things") (fdOf K (He.ga K "_law_things")) ["_law_m"] (bodyF 3 t_l_things) :=
  fn_g T.F_l_things sc_l_things fun cdv A outer s H E hr hgd => (ss_cons (ss_set 1 sc_l_things.nd (se_lst (sa_cons se_non (sa_cons se_int (sa_cons (se_un un_neg' se_int) (sa_cons se_int (sa_cons se_bl (sa_cons se_bl (sa_cons se_str (sa_cons se_str (sa_cons se_str (sa_cons (se_tup sa_nil) (sa_cons (se_tup (sa_cons se_int sa_nil)) (sa_cons (se_tup (sa_cons se_int (sa_cons se_non sa_nil))) (sa_cons (se_tup (sa_cons (se_tup (sa_cons se_int (sa_cons se_int sa_nil))) (sa_cons (se_tup sa_nil) sa_nil))) (sa_cons (se_lst sa_nil) (sa_cons (se_lst (sa_cons se_int sa_nil)) (sa_cons se_dicE (sa_cons (se_dicF (ts := [((sxC (.str "a")), (sxC (.int 1)))]) (pps_cons se_str se_int pps_nil)) sa_nil))))))))))))))))))) (ss_cons (ss_set 1 sc_l_things.nd (se_bin op_add' (se_var 1) (se_lst (sa_cons (se_bin op_pow' se_int se_int) (sa_cons (se_tup (sa_cons se_int (sa_cons se_int (sa_cons (se_tup (sa_cons se_int sa_nil)) sa_nil)))) (sa_cons (se_tup (sa_cons se_str (sa_cons se_str sa_nil))) (sa_cons (se_lst (sa_cons (se_tup (sa_cons se_int (sa_cons se_int (sa_cons se_non sa_nil)))) sa_nil)) (sa_cons se_str (sa_cons (se_tup (sa_cons se_non (sa_cons se_non sa_nil))) sa_nil))))))))) (ss_one (ss_ret (se_bin op_add' (se_lc [("_law_turn", 2)] fin_fz rfl sc_l_things.nd (si_range1 rfl T.f_range se_int) (blkOk_by (N := ["_law_m", "_law_some", "_law_turn"]) (sc := defScope (top 15)) (by decide +kernel)) (fun _ _ _ _ _ => (sg_name 2 sc_l_things.nd)) (fun _ _ _ _ _ => pts_yes) (fun _ _ _ _ _ => pe_0 (se_call (ok_l_of T) (hr.mono (by decide)) hgd rfl T.g_l_of T.k_l_of T.b_l_of (sa_cons (se_var 0) (sa_cons (se_var 1) sa_nil))))) (se_lst (sa_cons (se_call (ok_l_draw T) (hr.mono (by decide)) hgd rfl T.g_l_draw T.k_l_draw T.b_l_draw (sa_cons (se_var 0) (sa_cons se_int sa_nil))) (sa_cons (se_tup (sa_cons (se_call (ok_l_draw T) (hr.mono (by decide)) hgd rfl T.g_l_draw T.k_l_draw T.b_l_draw (sa_cons (se_var 0) (sa_cons se_int sa_nil))) (sa_cons se_str sa_nil))) (sa_cons (se_lst (sa_cons (se_call (ok_l_draw T) (hr.mono (by decide)) hgd rfl T.g_l_draw T.k_l_draw T.b_l_draw (sa_cons (se_var 0) (sa_cons se_int sa_nil))) sa_nil)) sa_nil)))))))))
theorem ok_l_things (T : Txt P K mg base) : FnG P w K mg base 3 (He.ga K "_law_things") (fdOf K (He.ga K "_law_things")) ["_law_m"] m_l_things := (raw_l_things T).obj
theorem sc_l_pairs : FnScope ["_law_thing_so", "_law_found"] ["_law_thing_so"] (defScope (top 16)) := ⟨rfl, rfl, rfl, by decide +kernel, rfl, by decide +kernel, by decide +kernel⟩
theorem raw_l_pairs (T : Txt P K mg base) : FnG P w K mg base 2 (He.ga K "_law_pairs") (fdOf K (He.ga K "_law_pairs")) ["_law_thing_so"] (bodyF 2 t_l_pairs) :=
  fn_g T.F_l_pairs sc_l_pairs fun cdv A outer s H E hr hgd => (ss_cons (ss_set 1 sc_l_pairs.nd (se_new (sa_cons (se_tup (sa_cons (se_mkx PySem.F.excBase_ValueError PySem.W.kxs_ValueError PySem.F.store_ValueError T.x_BadLot (hr.mono (by decide)) T.f_super T.tops rfl T.g_BadLot (se_var 0)) (sa_cons (se_mkk PySem.F.excBase_ValueError PySem.W.kxs_ValueError PySem.F.store_ValueError T.x_BadLot (hr.mono (by decide)) T.f_super T.tops rfl T.g_BadLot (se_var 0)) sa_nil))) (sa_cons (se_tup (sa_cons (se_mkx PySem.F.excBase_ValueError PySem.W.kxs_ValueError PySem.F.store_ValueError T.x_BadRun (hr.mono (by decide)) T.f_super T.tops rfl T.g_BadRun (se_var 0)) (sa_cons (se_mkk PySem.F.excBase_ValueError PySem.W.kxs_ValueError PySem.F.store_ValueError T.x_BadRun (hr.mono (by decide)) T.f_super T.tops rfl T.g_BadRun (se_var 0)) sa_nil))) sa_nil)))) (ss_cons (ss_expr (se_mt PySem.F.plainAttrs_list PySem.F.slot_list_append PySem.F.type_list_append mt_append' chk_list (se_var 1) (sa_cons (se_tup (sa_cons (se_mkx PySem.F.excBase_ValueError PySem.W.kxs_ValueError PySem.F.store_ValueError T.x_BadLevels (hr.mono (by decide)) T.f_super T.tops rfl T.g_BadLevels (se_var 0)) (sa_cons (se_mkk PySem.F.excBase_ValueError PySem.W.kxs_ValueError PySem.F.store_ValueError T.x_BadLevels (hr.mono (by decide)) T.f_super T.tops rfl T.g_BadLevels (se_var 0)) sa_nil))) sa_nil))) (ss_cons (ss_expr (se_mt PySem.F.plainAttrs_list PySem.F.slot_list_append PySem.F.type_list_append mt_append' chk_list (se_var 1) (sa_cons (se_tup (sa_cons (se_mkx PySem.F.excBase_ValueError PySem.W.kxs_ValueError PySem.F.store_ValueError T.x_BadDeed (hr.mono (by decide)) T.f_super T.tops rfl T.g_BadDeed (se_var 0)) (sa_cons (se_mkk PySem.F.excBase_ValueError PySem.W.kxs_ValueError PySem.F.store_ValueError T.x_BadDeed (hr.mono (by decide)) T.f_super T.tops rfl T.g_BadDeed (se_var 0)) sa_nil))) sa_nil))) (ss_cons (ss_expr (se_mt PySem.F.plainAttrs_list PySem.F.slot_list_append PySem.F.type_list_append mt_append' chk_list (se_var 1) (sa_cons (se_tup (sa_cons (se_mkx PySem.F.excBase_ValueError PySem.W.kxs_ValueError PySem.F.store_ValueError T.x_BadSplit (hr.mono (by decide)) T.f_super T.tops rfl T.g_BadSplit (se_var 0)) (sa_cons (se_mkk PySem.F.excBase_ValueError PySem.W.kxs_ValueError PySem.F.store_ValueError T.x_BadSplit (hr.mono (by decide)) T.f_super T.tops rfl T.g_BadSplit (se_var 0)) sa_nil))) sa_nil))) (ss_cons (ss_expr (se_mt PySem.F.plainAttrs_list PySem.F.slot_list_append PySem.F.type_list_append mt_append' chk_list (se_var 1) (sa_cons (se_tup (sa_cons (se_mkx PySem.F.excBase_ValueError PySem.W.kxs_ValueError PySem.F.store_ValueError T.x_BadFirm (hr.mono (by decide)) T.f_super T.tops rfl T.g_BadFirm (se_var 0)) (sa_cons (se_mkk PySem.F.excBase_ValueError PySem.W.kxs_ValueError PySem.F.store_ValueError T.x_BadFirm (hr.mono (by decide)) T.f_super T.tops rfl T.g_BadFirm (se_var 0)) sa_nil))) sa_nil))) (ss_cons (ss_expr (se_mt PySem.F.plainAttrs_list PySem.F.slot_list_append PySem.F.type_list_append mt_append' chk_list (se_var 1) (sa_cons (se_tup (sa_cons (se_mkx PySem.F.excBase_ValueError PySem.W.kxs_ValueError PySem.F.store_ValueError T.x_BadSeen (hr.mono (by decide)) T.f_super T.tops rfl T.g_BadSeen (se_var 0)) (sa_cons (se_mkk PySem.F.excBase_ValueError PySem.W.kxs_ValueError PySem.F.store_ValueError T.x_BadSeen (hr.mono (by decide)) T.f_super T.tops rfl T.g_BadSeen (se_var 0)) sa_nil))) sa_nil))) (ss_one (ss_ret (se_bin op_add' (se_var 1) (se_lst (sa_cons (se_tup (sa_cons (se_mkx PySem.F.excBase_ValueError PySem.W.kxs_ValueError PySem.F.store_ValueError T.x_BadPaper (hr.mono (by decide)) T.f_super T.tops rfl T.g_BadPaper (se_var 0)) (sa_cons (se_mkk PySem.F.excBase_ValueError PySem.W.kxs_ValueError PySem.F.store_ValueError T.x_BadPaper (hr.mono (by decide)) T.f_super T.tops rfl T.g_BadPaper (se_var 0)) sa_nil))) (sa_cons (se_tup (sa_cons (se_mkx PySem.F.excBase_OverflowError PySem.W.kxs_OverflowError PySem.F.store_OverflowError T.x_TooGreat (hr.mono (by decide)) T.f_super T.tops rfl T.g_TooGreat (se_var 0)) (sa_cons (se_mkk PySem.F.excBase_OverflowError PySem.W.kxs_OverflowError PySem.F.store_OverflowError T.x_TooGreat (hr.mono (by decide)) T.f_super T.tops rfl T.g_TooGreat (se_var 0)) sa_nil))) sa_nil))))))))))))
theorem ok_l_pairs (T : Txt P K mg base) : FnG P w K mg base 2 (He.ga K "_law_pairs") (fdOf K (He.ga K "_law_pairs")) ["_law_thing_so"] m_l_pairs := raw_l_pairs T
theorem sc_l_field : FnScope ["_law_spot", "_law_error"] ["_law_spot", "_law_error"] (defScope (top 17)) := ⟨rfl, rfl, rfl, by decide +kernel, rfl, by decide +kernel, by decide +kernel⟩
theorem raw_l_field (T : Txt P K mg base) : FnG P w K mg base 1 (He.ga K "_law_field") (fdOf K (He.ga K "_law_field")) ["_law_spot", "_law_error"] (bodyF 2 t_l_field) :=
  fn_g T.F_l_field sc_l_field fun cdv A outer s H E hr hgd => (ss_cons (ss_if (st_cmp op_lt' (se_var 0) se_int) (ss_one (ss_ret (se_fld (T.ask.fld (by decide)) (se_var 1)))) ss_nil) (ss_cons (ss_if (st_cmp op_lt' (se_var 0) se_int) (ss_one (ss_ret (se_fld (T.ask.fld (by decide)) (se_var 1)))) ss_nil) (ss_one (ss_ret (se_if (st_cmp (op_eq' (hu64 hr)) (se_var 0) se_int) (se_fld (T.ask.fld (by decide)) (se_var 1)) (se_fld (T.ask.fld (by decide)) (se_var 1)))))))
theorem ok_l_field (T : Txt P K mg base) : FnG P w K mg base 1 (He.ga K "_law_field") (fdOf K (He.ga K "_law_field")) ["_law_spot", "_law_error"] m_l_field := raw_l_field T
theorem sc_l_marks_of : FnScope ["_law_error", "_law_found"] ["_law_error"] (defScope (top 18)) := ⟨rfl, rfl, rfl, by decide +kernel, rfl, by decide +kernel, by decide +kernel⟩
theorem raw_l_marks_of (T : Txt P K mg base) : FnG P w K mg base 1 (He.ga K "_law_marks_of") (fdOf K (He.ga K "_law_marks_of")) ["_law_error"] (bodyF 2 t_l_marks_of) :=
  fn_g T.F_l_marks_of sc_l_marks_of fun cdv A outer s H E hr hgd => (ss_cons (ss_set 1 sc_l_marks_of.nd (se_lst (sa_cons (se_isX (v := .ref (He.ga K "BadLot")) (u := .ref (He.ga K "BadLot")) rfl (fun _ h => h) (pe_glob rfl T.g_BadLot rfl) (T.ask.sub (by decide)) (se_var 0) rfl T.f_isinstance) (sa_cons (se_isX (v := .ref (He.ga K "BadRun")) (u := .ref (He.ga K "BadRun")) rfl (fun _ h => h) (pe_glob rfl T.g_BadRun rfl) (T.ask.sub (by decide)) (se_var 0) rfl T.f_isinstance) (sa_cons (se_isX (v := .ref (He.ga K "BadLevels")) (u := .ref (He.ga K "BadLevels")) rfl (fun _ h => h) (pe_glob rfl T.g_BadLevels rfl) (T.ask.sub (by decide)) (se_var 0) rfl T.f_isinstance) sa_nil))))) (ss_cons (ss_set 1 sc_l_marks_of.nd (se_bin op_add' (se_var 1) (se_lst (sa_cons (se_isX (v := .ref (He.ga K "BadDeed")) (u := .ref (He.ga K "BadDeed")) rfl (fun _ h => h) (pe_glob rfl T.g_BadDeed rfl) (T.ask.sub (by decide)) (se_var 0) rfl T.f_isinstance) (sa_cons (se_isX (v := .ref (He.ga K "BadSplit")) (u := .ref (He.ga K "BadSplit")) rfl (fun _ h => h) (pe_glob rfl T.g_BadSplit rfl) (T.ask.sub (by decide)) (se_var 0) rfl T.f_isinstance) (sa_cons (se_isX (v := .ref (He.ga K "BadFirm")) (u := .ref (He.ga K "BadFirm")) rfl (fun _ h => h) (pe_glob rfl T.g_BadFirm rfl) (T.ask.sub (by decide)) (se_var 0) rfl T.f_isinstance) sa_nil)))))) (ss_one (ss_ret (se_bin op_add' (se_var 1) (se_lst (sa_cons (se_isX (v := .ref (He.ga K "BadSeen")) (u := .ref (He.ga K "BadSeen")) rfl (fun _ h => h) (pe_glob rfl T.g_BadSeen rfl) (T.ask.sub (by decide)) (se_var 0) rfl T.f_isinstance) (sa_cons (se_isX (v := .ref (He.ga K "BadPaper")) (u := .ref (He.ga K "BadPaper")) rfl (fun _ h => h) (pe_glob rfl T.g_BadPaper rfl) (T.ask.sub (by decide)) (se_var 0) rfl T.f_isinstance) (sa_cons (se_isX (v := .ref (He.ga K "TooGreat")) (u := .ref (He.ga K "TooGreat")) rfl (fun _ h => h) (pe_glob rfl T.g_TooGreat rfl) (T.ask.sub (by decide)) (se_var 0) rfl T.f_isinstance) sa_nil)))))))))
theorem ok_l_marks_of (T : Txt P K mg base) : FnG P w K mg base 1 (He.ga K "_law_marks_of") (fdOf K (He.ga K "_law_marks_of")) ["_law_error"] m_l_marks_of := raw_l_marks_of T
theorem okH_l_marks_of (T : Txt P K mg base) : FnGH P w K mg base 1 (He.ga K "_law_marks_of") (fdOf K (He.ga K "_law_marks_of")) ["_law_error"] m_l_marks_of :=
  fn_gH T.F_l_marks_of sc_l_marks_of fun cdv A a outer s H E hr hgd => (ss_cons (ss_set 1 sc_l_marks_of.nd (se_lst (sa_cons (se_isX (v := .ref (He.ga K "BadLot")) (u := .ref (He.ga K "BadLot")) rfl (fun _ h => h) (pe_glob rfl T.g_BadLot rfl) (T.ask.sub (by decide)) (se_var 0) rfl T.f_isinstance) (sa_cons (se_isX (v := .ref (He.ga K "BadRun")) (u := .ref (He.ga K "BadRun")) rfl (fun _ h => h) (pe_glob rfl T.g_BadRun rfl) (T.ask.sub (by decide)) (se_var 0) rfl T.f_isinstance) (sa_cons (se_isX (v := .ref (He.ga K "BadLevels")) (u := .ref (He.ga K "BadLevels")) rfl (fun _ h => h) (pe_glob rfl T.g_BadLevels rfl) (T.ask.sub (by decide)) (se_var 0) rfl T.f_isinstance) sa_nil))))) (ss_cons (ss_set 1 sc_l_marks_of.nd (se_bin op_add' (se_var 1) (se_lst (sa_cons (se_isX (v := .ref (He.ga K "BadDeed")) (u := .ref (He.ga K "BadDeed")) rfl (fun _ h => h) (pe_glob rfl T.g_BadDeed rfl) (T.ask.sub (by decide)) (se_var 0) rfl T.f_isinstance) (sa_cons (se_isX (v := .ref (He.ga K "BadSplit")) (u := .ref (He.ga K "BadSplit")) rfl (fun _ h => h) (pe_glob rfl T.g_BadSplit rfl) (T.ask.sub (by decide)) (se_var 0) rfl T.f_isinstance) (sa_cons (se_isX (v := .ref (He.ga K "BadFirm")) (u := .ref (He.ga K "BadFirm")) rfl (fun _ h => h) (pe_glob rfl T.g_BadFirm rfl) (T.ask.sub (by decide)) (se_var 0) rfl T.f_isinstance) sa_nil)))))) (ss_one (ss_ret (se_bin op_add' (se_var 1) (se_lst (sa_cons (se_isX (v := .ref (He.ga K "BadSeen")) (u := .ref (He.ga K "BadSeen")) rfl (fun _ h => h) (pe_glob rfl T.g_BadSeen rfl) (T.ask.sub (by decide)) (se_var 0) rfl T.f_isinstance) (sa_cons (se_isX (v := .ref (He.ga K "BadPaper")) (u := .ref (He.ga K "BadPaper")) rfl (fun _ h => h) (pe_glob rfl T.g_BadPaper rfl) (T.ask.sub (by decide)) (se_var 0) rfl T.f_isinstance) (sa_cons (se_isX (v := .ref (He.ga K "TooGreat")) (u := .ref (He.ga K "TooGreat")) rfl (fun _ h => h) (pe_glob rfl T.g_TooGreat rfl) (T.ask.sub (by decide)) (se_var 0) rfl T.f_isinstance) sa_nil)))))))))
theorem sc_l_above : FnScope ["_law_error", "_law_found"] ["_law_error"] (defScope (top 19)) := ⟨rfl, rfl, rfl, by decide +kernel, rfl, by decide +kernel, by decide +kernel⟩
theorem raw_l_above (T : Txt P K mg base) : FnG P w K mg base 1 (He.ga K "_law_above") (fdOf K (He.ga K "_law_above")) ["_law_error"] (bodyF 2 t_l_above) :=
  fn_g T.F_l_above sc_l_above fun cdv A outer s H E hr hgd => (ss_cons (ss_set 1 sc_l_above.nd (se_lst (sa_cons (se_isX (v := .ref (He.ga K "LevelError")) (u := .ref (He.ga K "LevelError")) rfl (fun _ h => h) (pe_glob rfl T.g_LevelError rfl) (T.ask.sub (by decide)) (se_var 0) rfl T.f_isinstance) (sa_cons (se_isX (v := .ty "ValueError") (u := .type "ValueError") rfl (fun _ h => h) (pe_bltn (v := .ty "ValueError") rfl T.f_ValueError rfl rfl (by decide) (by decide)) (T.askT.sub (d := "ValueError") (t := "ValueError") (by decide)) (se_var 0) rfl T.f_isinstance) (sa_cons (se_isX (v := .ty "OverflowError") (u := .type "OverflowError") rfl (fun _ h => h) (pe_bltn (v := .ty "OverflowError") rfl T.f_OverflowError rfl rfl (by decide) (by decide)) (T.askT.sub (d := "OverflowError") (t := "OverflowError") (by decide)) (se_var 0) rfl T.f_isinstance) sa_nil))))) (ss_cons (ss_set 1 sc_l_above.nd (se_bin op_add' (se_var 1) (se_lst (sa_cons (se_isX (v := .ty "LookupError") (u := .type "LookupError") rfl (fun _ h => h) (pe_bltn (v := .ty "LookupError") rfl T.f_LookupError rfl rfl (by decide) (by decide)) (T.askT.sub (d := "LookupError") (t := "LookupError") (by decide)) (se_var 0) rfl T.f_isinstance) (sa_cons (se_isX (v := .ty "TypeError") (u := .type "TypeError") rfl (fun _ h => h) (pe_bltn (v := .ty "TypeError") rfl T.f_TypeError rfl rfl (by decide) (by decide)) (T.askT.sub (d := "TypeError") (t := "TypeError") (by decide)) (se_var 0) rfl T.f_isinstance) (sa_cons (se_isX (v := .ty "RuntimeError") (u := .type "RuntimeError") rfl (fun _ h => h) (pe_bltn (v := .ty "RuntimeError") rfl T.f_RuntimeError rfl rfl (by decide) (by decide)) (T.askT.sub (d := "RuntimeError") (t := "RuntimeError") (by decide)) (se_var 0) rfl T.f_isinstance) sa_nil)))))) (ss_one (ss_ret (se_var 1)))))
theorem ok_l_above (T : Txt P K mg base) : FnG P w K mg base 1 (He.ga K "_law_above") (fdOf K (He.ga K "_law_above")) ["_law_error"] m_l_above := raw_l_above T
theorem sc_l_made_right : FnScope ["_law_thing_so", "_law_kept", "_law_spot", "_law_pair", "_law_wide", "_law_error", "_law_k"] ["_law_thing_so"] (defScope (top 20)) := ⟨rfl, rfl, rfl, by decide +kernel, rfl, by decide +kernel, by decide +kernel⟩
theorem raw_l_made_right (T : Txt P K mg base) : FnG P w K mg base 3 (He.ga K "_law_made_right") (fdOf K (He.ga K "_law_made_right")) ["_law_thing_so"] (bodyF 7 t_l_made_right) :=
  fn_g T.F_l_made_right sc_l_made_right fun cdv A outer s H E hr hgd => (ss_cons (ss_set 1 sc_l_made_right.nd (se_callB (cl_repr hgd (hu65 hr)) rfl T.f_repr (by decide +kernel) (sa_cons (se_var 0) sa_nil))) (ss_cons (ss_wp [2, 3, 4, 5] (ss_for passB rfl (si_enum rfl T.f_enumerate (se_call (ok_l_pairs T) (hr.mono (by decide)) hgd rfl T.g_l_pairs T.k_l_pairs T.b_l_pairs (sa_cons (se_var 0) sa_nil))) (sg_tup rfl (sgs_cons (sg_name 2 sc_l_made_right.nd) (sgs_cons (sg_name 3 sc_l_made_right.nd) sgs_nil))) (ss_end [2, 3, 4, 5] (ss_cons (ss_set 4 sc_l_made_right.nd (se_if (st_cmp op_lt' (se_var 2) se_int) (se_lst (sa_cons se_bl (sa_cons se_bl (sa_cons se_bl sa_nil)))) (se_lst (sa_cons se_bl (sa_cons se_bl (sa_cons se_bl sa_nil)))))) (ss_one (ss_wp [5] (ss_for passB rfl (si_seq (se_var 3)) (sg_name 5 sc_l_made_right.nd) (ss_end [5] (ss_cons (ss_if (PW.pt (st_or (st_cmp (op_neS (hu64 hr)) (se_callB (cl_repr hgd (hu65 hr)) rfl T.f_repr (by decide +kernel) (sa_cons (se_call (ok_l_field T) (hr.mono (by decide)) hgd rfl T.g_l_field T.k_l_field T.b_l_field (sa_cons (se_var 2) (sa_cons (se_var 5) sa_nil))) sa_nil)) (se_var 1)) (st_or1 (st_cmp (op_neS (hu64 hr)) (se_callB (cl_repr hgd (hu65 hr)) rfl T.f_repr (by decide +kernel) (sa_cons (se_call (ok_l_field T) (hr.mono (by decide)) hgd rfl T.g_l_field T.k_l_field T.b_l_field (sa_cons (se_var 2) (sa_cons (se_var 5) sa_nil))) sa_nil)) (se_var 1))))) (ss_one (ss_ret se_bl)) ss_nil) (ss_one (ss_if (PW.pt (st_or (st_cmp (op_ne' (hu64 hr)) (se_call (ok_l_marks_of T) (hr.mono (by decide)) hgd rfl T.g_l_marks_of T.k_l_marks_of T.b_l_marks_of (sa_cons (se_var 5) sa_nil)) (se_lc [("_law_k", 6)] fin_fz rfl sc_l_made_right.nd (si_range1 rfl T.f_range se_int) (blkOk_by (N := ["_law_thing_so", "_law_kept", "_law_spot", "_law_pair", "_law_wide", "_law_error", "_law_k"]) (sc := defScope (top 20)) (by decide +kernel)) (fun _ _ _ _ _ => (sg_name 6 sc_l_made_right.nd)) (fun _ _ _ _ _ => pts_yes) (fun _ _ _ _ _ => pe_0 (se_cmp (op_eq' (hu64 hr)) (se_var 6) (se_var 2))))) (st_or1 (st_cmp (op_ne' (hu64 hr)) (se_call (ok_l_above T) (hr.mono (by decide)) hgd rfl T.g_l_above T.k_l_above T.b_l_above (sa_cons (se_var 5) sa_nil)) (se_bin op_add' (se_var 4) (se_bin op_mulT (se_lst (sa_cons se_bl sa_nil)) se_int)))))) (ss_one (ss_ret se_bl)) ss_nil))))))))))) (ss_one (ss_ret (se_cmp (op_eqS (hu64 hr)) (se_callB (cl_repr hgd (hu65 hr)) rfl T.f_repr (by decide +kernel) (sa_cons (se_var 0) sa_nil)) (se_var 1))))))
theorem ok_l_made_right (T : Txt P K mg base) : FnG P w K mg base 3 (He.ga K "_law_made_right") (fdOf K (He.ga K "_law_made_right")) ["_law_thing_so"] m_l_made_right := (raw_l_made_right T).pure
theorem sc_l_thrown : FnScope ["_law_error_so", "_law_found", "e"] ["_law_error_so"] (defScope (top 21)) := ⟨rfl, rfl, rfl, by decide +kernel, rfl, by decide +kernel, by decide +kernel⟩
theorem raw_l_thrown (T : Txt P K mg base) : FnG P w K mg base 2 (He.ga K "_law_thrown") (fdOf K (He.ga K "_law_thrown")) ["_law_error_so"] (bodyF 3 t_l_thrown) :=
  fn_g T.F_l_thrown sc_l_thrown fun cdv A outer s H E hr hgd => (ss_cons (ss_set 1 sc_l_thrown.nd (se_new sa_nil)) (ss_cons (ss_try rfl rfl rfl sc_l_thrown.nd rfl rfl (clause_one ⟨rfl, by decide, .inl T.g_LevelError⟩) (T.ask.one (by decide)) (fun pn xe hx => (ss_one (ss_raise PySem.F.excBase_ValueError PySem.W.kxs_ValueError PySem.F.store_ValueError T.x_BadLevels (hr.mono (by decide)) T.f_super T.tops rfl rfl T.g_BadLevels (se_var 0)))) (fun a pn => (ss_one (ss_expr (se_mt PySem.F.plainAttrs_list PySem.F.slot_list_append PySem.F.type_list_append mt_append' chk_list (se_var 1) (sa_cons (se_lst (sa_cons (se_ix ix_item (se_callH (okH_l_marks_of T) (hr.mono (by decide)) hgd rfl T.g_l_marks_of T.k_l_marks_of T.b_l_marks_of (sa_cons (se_var 2) sa_nil)) se_int) (sa_cons (se_callB (cl_repr hgd (hu65 hr :)) rfl T.f_repr (by decide +kernel) (sa_cons (se_fld (T.ask.fld (by decide)) (se_var 2)) sa_nil)) sa_nil))) sa_nil)))))) (ss_cons (ss_try rfl rfl rfl sc_l_thrown.nd rfl rfl (clause_one ⟨rfl, by decide, .inl T.g_LevelError⟩) (T.ask.one (by decide)) (fun pn xe hx => (ss_one (ss_raise PySem.F.excBase_ValueError PySem.W.kxs_ValueError PySem.F.store_ValueError T.x_BadLot (hr.mono (by decide)) T.f_super T.tops rfl rfl T.g_BadLot (se_var 0)))) (fun a pn => (ss_one (ss_expr (se_mt PySem.F.plainAttrs_list PySem.F.slot_list_append PySem.F.type_list_append mt_append' chk_list (se_var 1) (sa_cons (se_lst (sa_cons (se_ix ix_item (se_callH (okH_l_marks_of T) (hr.mono (by decide)) hgd rfl T.g_l_marks_of T.k_l_marks_of T.b_l_marks_of (sa_cons (se_var 2) sa_nil)) se_int) (sa_cons (se_callB (cl_repr hgd (hu65 hr :)) rfl T.f_repr (by decide +kernel) (sa_cons (se_fld (T.ask.fld (by decide)) (se_var 2)) sa_nil)) sa_nil))) sa_nil)))))) (ss_cons (ss_try rfl rfl rfl sc_l_thrown.nd rfl rfl (clause_one ⟨rfl, by decide, .inl T.g_BadRun⟩) (T.ask.one (by decide)) (fun pn xe hx => (ss_one (ss_raise PySem.F.excBase_ValueError PySem.W.kxs_ValueError PySem.F.store_ValueError T.x_BadRun (hr.mono (by decide)) T.f_super T.tops rfl rfl T.g_BadRun (se_var 0)))) (fun a pn => (ss_one (ss_expr (se_mt PySem.F.plainAttrs_list PySem.F.slot_list_append PySem.F.type_list_append mt_append' chk_list (se_var 1) (sa_cons (se_lst (sa_cons (se_ix ix_item (se_callH (okH_l_marks_of T) (hr.mono (by decide)) hgd rfl T.g_l_marks_of T.k_l_marks_of T.b_l_marks_of (sa_cons (se_var 2) sa_nil)) se_int) (sa_cons (se_callB (cl_repr hgd (hu65 hr :)) rfl T.f_repr (by decide +kernel) (sa_cons (se_fld (T.ask.fld (by decide)) (se_var 2)) sa_nil)) sa_nil))) sa_nil)))))) (ss_cons (ss_try rfl rfl rfl sc_l_thrown.nd rfl rfl (clause_one ⟨rfl, by decide, .inl T.g_LevelError⟩) (T.ask.one (by decide)) (fun pn xe hx => (ss_one (ss_raise PySem.F.excBase_ValueError PySem.W.kxs_ValueError PySem.F.store_ValueError T.x_BadPaper (hr.mono (by decide)) T.f_super T.tops rfl rfl T.g_BadPaper (se_var 0)))) (fun a pn => (ss_one (ss_expr (se_mt PySem.F.plainAttrs_list PySem.F.slot_list_append PySem.F.type_list_append mt_append' chk_list (se_var 1) (sa_cons (se_lst (sa_cons (se_ix ix_item (se_callH (okH_l_marks_of T) (hr.mono (by decide)) hgd rfl T.g_l_marks_of T.k_l_marks_of T.b_l_marks_of (sa_cons (se_var 2) sa_nil)) se_int) (sa_cons (se_callB (cl_repr hgd (hu65 hr :)) rfl T.f_repr (by decide +kernel) (sa_cons (se_fld (T.ask.fld (by decide)) (se_var 2)) sa_nil)) sa_nil))) sa_nil)))))) (ss_cons (ss_try rfl rfl rfl sc_l_thrown.nd rfl rfl (clause_one ⟨rfl, by decide, .inl T.g_TooGreat⟩) (T.ask.one (by decide)) (fun pn xe hx => (ss_one (ss_raise PySem.F.excBase_OverflowError PySem.W.kxs_OverflowError PySem.F.store_OverflowError T.x_TooGreat (hr.mono (by decide)) T.f_super T.tops rfl rfl T.g_TooGreat (se_var 0)))) (fun a pn => (ss_one (ss_expr (se_mt PySem.F.plainAttrs_list PySem.F.slot_list_append PySem.F.type_list_append mt_append' chk_list (se_var 1) (sa_cons (se_lst (sa_cons (se_ix ix_item (se_callH (okH_l_marks_of T) (hr.mono (by decide)) hgd rfl T.g_l_marks_of T.k_l_marks_of T.b_l_marks_of (sa_cons (se_var 2) sa_nil)) se_int) (sa_cons (se_callB (cl_repr hgd (hu65 hr :)) rfl T.f_repr (by decide +kernel) (sa_cons (se_fld (T.ask.fld (by decide)) (se_var 2)) sa_nil)) sa_nil))) sa_nil)))))) (ss_one (ss_frz 1 (ss_ret (se_var 1))))))))))
theorem ok_l_thrown (T : Txt P K mg base) : FnG P w K mg base 2 (He.ga K "_law_thrown") (fdOf K (He.ga K "_law_thrown")) ["_law_error_so"] m_l_thrown := (raw_l_thrown T).pure
theorem sc_law : FnScope ["_law_script", "_law_k", "_law_m", "_law_thing_so", "_law_plain", "_law_one", "_law_other"] ["_law_script"] (defScope (top 22)) := ⟨rfl, rfl, rfl, by decide +kernel, rfl, by decide +kernel, by decide +kernel⟩
theorem raw_law (T : Txt P K mg base) : FnG P w K mg base 4 (He.ga K "law") (fdOf K (He.ga K "law")) ["_law_script"] (bodyF 7 t_law) :=
  fn_g T.F_law sc_law fun cdv A outer s H E hr hgd => (ss_cons (ss_wp [1, 2, 3] (ss_for passB rfl (si_range1 rfl T.f_range (se_bin op_add' se_int (se_callB (cl_min2 rfl) rfl T.f_min (by decide +kernel) (sa_cons (se_callB (cl_len) rfl T.f_len (by decide +kernel) (sa_cons (se_var 0) sa_nil)) (sa_cons se_int sa_nil))))) (sg_name 1 sc_law.nd) (ss_loc [1, 2, 3] (ss_cons (ss_set 2 sc_law.nd (se_call (ok_l_begun T) (hr.mono (by decide)) hgd rfl T.g_l_begun T.k_l_begun T.b_l_begun (sa_cons (se_var 0) (sa_cons (se_var 1) sa_nil)))) (ss_one (ss_wp [3] (ss_for passB rfl (si_seq (se_call (ok_l_things T) (hr.mono (by decide)) hgd rfl T.g_l_things T.k_l_things T.b_l_things (sa_cons (se_var 2) sa_nil))) (sg_name 3 sc_law.nd) (ss_end [3] (ss_one (ss_if (PW.pt (st_or (st_not (st_val (se_call (ok_l_made_right T) (hr.mono (by decide)) hgd rfl T.g_l_made_right T.k_l_made_right T.b_l_made_right (sa_cons (se_var 3) sa_nil)))) (st_or1 (st_cmp (op_ne' (hu64 hr)) (se_call (ok_l_thrown T) (hr.mono (by decide)) hgd rfl T.g_l_thrown T.k_l_thrown T.b_l_thrown (sa_cons (se_var 3) sa_nil)) (se_bin op_mulT (se_lst (sa_cons (se_lst (sa_cons se_bl (sa_cons (se_callB (cl_repr hgd (hu65 hr)) rfl T.f_repr (by decide +kernel) (sa_cons (se_var 3) sa_nil)) sa_nil))) sa_nil)) se_int))))) (ss_one (ss_ret se_bl)) ss_nil)))))))))) (ss_cons (ss_set 4 sc_law.nd (se_mk0 PySem.F.excBase_ValueError T.z_LevelError.1 T.z_LevelError.2 rfl T.g_LevelError se_str)) (ss_cons (ss_if (PW.pt (st_or (st_cmp (op_ne' (hu64 hr)) (se_call (ok_l_marks_of T) (hr.mono (by decide)) hgd rfl T.g_l_marks_of T.k_l_marks_of T.b_l_marks_of (sa_cons (se_var 4) sa_nil)) (se_bin op_mulT (se_lst (sa_cons se_bl sa_nil)) se_int)) (st_or1 (st_cmp (op_ne' (hu64 hr)) (se_call (ok_l_above T) (hr.mono (by decide)) hgd rfl T.g_l_above T.k_l_above T.b_l_above (sa_cons (se_var 4) sa_nil)) (se_bin op_add' (se_lst (sa_cons se_bl (sa_cons se_bl sa_nil))) (se_bin op_mulT (se_lst (sa_cons se_bl sa_nil)) se_int)))))) (ss_one (ss_ret se_bl)) ss_nil) (ss_cons (ss_par 5 6 rfl sc_law.nd (sa_cons (se_mkx PySem.F.excBase_ValueError PySem.W.kxs_ValueError PySem.F.store_ValueError T.x_BadLot (hr.mono (by decide)) T.f_super T.tops rfl T.g_BadLot (se_tup (sa_cons se_int (sa_cons se_int sa_nil)))) (sa_cons (se_mkx PySem.F.excBase_ValueError PySem.W.kxs_ValueError PySem.F.store_ValueError T.x_BadLot (hr.mono (by decide)) T.f_super T.tops rfl T.g_BadLot (se_tup (sa_cons se_int (sa_cons se_int sa_nil)))) sa_nil))) (ss_one (ss_ret (se_cmp (op_eqS (hu64 hr)) (se_callB (cl_repr hgd (hu65 hr)) rfl T.f_repr (by decide +kernel) (sa_cons (se_lst (sa_cons (se_fld (T.ask.fld (by decide)) (se_var 5)) (sa_cons (se_fld (T.ask.fld (by decide)) (se_var 6)) (sa_cons (se_fld (T.ask.fld (by decide)) (se_mkx PySem.F.excBase_ValueError PySem.W.kxs_ValueError PySem.F.store_ValueError T.x_BadLot (hr.mono (by decide)) T.f_super T.tops rfl T.g_BadLot se_non)) sa_nil)))) sa_nil)) se_str)))))))
theorem ok_law (T : Txt P K mg base) : FnG P w K mg base 4 (He.ga K "law") (fdOf K (He.ga K "law")) ["_law_script"] m_law := raw_law T
end K25
end
section
set_option maxHeartbeats 0
namespace K25
open PySem PySem.Spec PyProof.Rows L2 MX MS
def dd0 : He.DefD := ⟨("_law_begun", none), "_law_begun", "_law_begun", defArgs (top 12), defBody (top 12), defScope (top 12), [], []⟩
def dd1 : He.DefD := ⟨("_law_draw", none), "_law_draw", "_law_draw", defArgs (top 13), defBody (top 13), defScope (top 13), [], []⟩
def dd2 : He.DefD := ⟨("_law_of", none), "_law_of", "_law_of", defArgs (top 14), defBody (top 14), defScope (top 14), [], []⟩
def dd3 : He.DefD := ⟨("_law_things", none), "_law_things", "_law_things", defArgs (top 15), defBody (top 15), defScope (top 15), [], []⟩
def dd4 : He.DefD := ⟨("_law_pairs", none), "_law_pairs", "_law_pairs", defArgs (top 16), defBody (top 16), defScope (top 16), [], []⟩
def dd5 : He.DefD := ⟨("_law_field", none), "_law_field", "_law_field", defArgs (top 17), defBody (top 17), defScope (top 17), [], []⟩
def dd6 : He.DefD := ⟨("_law_marks_of", none), "_law_marks_of", "_law_marks_of", defArgs (top 18), defBody (top 18), defScope (top 18), [], []⟩
def dd7 : He.DefD := ⟨("_law_above", none), "_law_above", "_law_above", defArgs (top 19), defBody (top 19), defScope (top 19), [], []⟩
def dd8 : He.DefD := ⟨("_law_made_right", none), "_law_made_right", "_law_made_right", defArgs (top 20), defBody (top 20), defScope (top 20), [], []⟩
def dd9 : He.DefD := ⟨("_law_thrown", none), "_law_thrown", "_law_thrown", defArgs (top 21), defBody (top 21), defScope (top 21), [], []⟩
def dd10 : He.DefD := ⟨("law", none), "law", "law", defArgs (top 22), defBody (top 22), defScope (top 22), [], []⟩
def fn : List He.DefD := ([dd0, dd1, dd2, dd3, dd4, dd5, dd6, dd7, dd8, dd9, dd10] : List He.DefD)
def fa : List He.Fa := ([.free "LookupError", .free "OverflowError", .free "RuntimeError", .free "TypeError", .free "ValueError", .free "enumerate", .free "int", .free "isinstance", .free "len", .free "min", .free "range", .free "repr", .free "super", .glo "_law_begun", .glo "_law_draw", .glo "_law_of", .glo "_law_things", .glo "_law_pairs", .glo "_law_field", .glo "_law_marks_of", .glo "_law_above", .glo "_law_made_right", .glo "_law_thrown", .glo "law", .glo "BadDeed", .glo "BadFirm", .glo "BadLevels", .glo "BadLot", .glo "BadPaper", .glo "BadRun"] : List He.Fa) ++ ([.glo "BadSeen", .glo "BadSplit", .glo "LevelError", .glo "TooGreat"] : List He.Fa)
abbrev R : PySem.W.OpenRow := PySem.W.OpenLaw.row PySem.Challenge.rw_mixedlevels_k25_exceptions
def bx (K : PySem.W.Frag) : Bool := (ExD.ok R.prog.main.file K ex_BadDeed && (ExD.ok R.prog.main.file K ex_BadFirm && (ExD.ok R.prog.main.file K ex_BadLevels && (ExD.ok R.prog.main.file K ex_BadLot && (ExD.ok R.prog.main.file K ex_BadPaper && (ExD.ok R.prog.main.file K ex_BadRun && (ExD.ok R.prog.main.file K ex_BadSeen && (ExD.ok R.prog.main.file K ex_BadSplit && (ExD.ok R.prog.main.file K ex_TooGreat && (askB K ["most", "place", "value", "word"] ([("BadLot", ["BadLot", "LevelError"]), ("BadLevels", ["BadLevels", "LevelError"]), ("BadRun", ["BadRun", "LevelError"]), ("BadDeed", ["BadDeed", "LevelError"]), ("BadSplit", ["BadSplit", "LevelError"]), ("BadFirm", ["BadFirm", "LevelError"]), ("BadSeen", ["BadSeen", "LevelError"]), ("BadPaper", ["BadPaper", "LevelError"]), ("TooGreat", ["TooGreat"]), ("LevelError", ["LevelError"])] : List (Str × List Str)) ["BadDeed", "BadFirm", "BadLevels", "BadLot", "BadPaper", "BadRun", "BadSeen", "BadSplit", "LevelError", "TooGreat"] && (askT K ([("BadLot", ["ValueError"]), ("BadLevels", ["ValueError"]), ("BadRun", ["ValueError"]), ("BadDeed", ["ValueError"]), ("BadSplit", ["ValueError"]), ("BadFirm", ["ValueError"]), ("BadSeen", ["ValueError"]), ("BadPaper", ["ValueError"]), ("TooGreat", ["OverflowError"]), ("LevelError", ["ValueError"])] : List (Str × List Str)) [("LookupError", "LookupError"), ("OverflowError", "OverflowError"), ("RuntimeError", "RuntimeError"), ("TypeError", "TypeError"), ("ValueError", "ValueError")] && ((PySem.W.excIn K (He.ga K "LevelError") [.type "ValueError", .type "Exception", .type "BaseException", .type "object"] "ValueError.__new__" && PySem.W.keepIn K (.ref (He.ga K "LevelError"))) && true))))))))))))
def loose : List Str := (["LevelError", "BadLot", "BadLevels", "BadRun", "BadDeed", "BadSplit", "BadFirm", "BadSeen", "BadPaper", "TooGreat", "_law_begun", "_law_draw", "_law_of", "_law_things", "_law_pairs", "_law_field", "_law_marks_of", "_law_above", "_law_made_right", "_law_thrown"] : List Str)
def exl : List ExD := [ex_BadDeed, ex_BadFirm, ex_BadLevels, ex_BadLot, ex_BadPaper, ex_BadRun, ex_BadSeen, ex_BadSplit, ex_TooGreat]
abbrev hk : PySem.W.Hook := He.hookMX 4 fa fn bx exl
def ob (s : PySem.W.SharedT) : He.AlMX := He.obsMXG 4 fa fn bx exl (HandSHeadRun.getT s)
theorem ob_eq (s : PySem.W.SharedT) : ob s = hk.obs s.abs := He.obsMXG_eq (HandSHeadRun.getT_eq s)
theorem run (w : World) : HandSHeadRun.RunEq R (PySem.W.view R.prog [22]) hk ob 4000 loose w := by
  intro os
  kernel_rfl
theorem txt {K : PySem.W.Frag} {h : Heap} {mg : Str → Option Value} {base : Heap} (X : K.In h) (G : h.Ns mainGlobals mg) (cx : He.SaysMX fa fn bx exl h K) (TB : ∀ p ∈ funsK K, LamX.TabB base mg p.1 p.2.1) : Txt R.prog K mg base := by
  have c := cx.m
  have F0 := (c.d.def_ 0 (d := dd0) rfl).elim fun fd F => MX.FunD.toOf F
  have F1 := (c.d.def_ 1 (d := dd1) rfl).elim fun fd F => MX.FunD.toOf F
  have F2 := (c.d.def_ 2 (d := dd2) rfl).elim fun fd F => MX.FunD.toOf F
  have F3 := (c.d.def_ 3 (d := dd3) rfl).elim fun fd F => MX.FunD.toOf F
  have F4 := (c.d.def_ 4 (d := dd4) rfl).elim fun fd F => MX.FunD.toOf F
  have F5 := (c.d.def_ 5 (d := dd5) rfl).elim fun fd F => MX.FunD.toOf F
  have F6 := (c.d.def_ 6 (d := dd6) rfl).elim fun fd F => MX.FunD.toOf F
  have F7 := (c.d.def_ 7 (d := dd7) rfl).elim fun fd F => MX.FunD.toOf F
  have F8 := (c.d.def_ 8 (d := dd8) rfl).elim fun fd F => MX.FunD.toOf F
  have F9 := (c.d.def_ 9 (d := dd9) rfl).elim fun fd F => MX.FunD.toOf F
  have F10 := (c.d.def_ 10 (d := dd10) rfl).elim fun fd F => MX.FunD.toOf F
  have cb := c.b
  simp only [bx, Bool.and_eq_true] at cb
  exact {
    f_LookupError := He.free_ok X G (c.d.fact 0 rfl)
    f_OverflowError := He.free_ok X G (c.d.fact 1 rfl)
    f_RuntimeError := He.free_ok X G (c.d.fact 2 rfl)
    f_TypeError := He.free_ok X G (c.d.fact 3 rfl)
    f_ValueError := He.free_ok X G (c.d.fact 4 rfl)
    f_enumerate := He.free_ok X G (c.d.fact 5 rfl)
    f_int := He.free_ok X G (c.d.fact 6 rfl)
    f_isinstance := He.free_ok X G (c.d.fact 7 rfl)
    f_len := He.free_ok X G (c.d.fact 8 rfl)
    f_min := He.free_ok X G (c.d.fact 9 rfl)
    f_range := He.free_ok X G (c.d.fact 10 rfl)
    f_repr := He.free_ok X G (c.d.fact 11 rfl)
    f_super := He.free_ok X G (c.d.fact 12 rfl)
    g_BadDeed := He.glo_ok X G (c.d.fact 24 rfl)
    g_BadFirm := He.glo_ok X G (c.d.fact 25 rfl)
    g_BadLevels := He.glo_ok X G (c.d.fact 26 rfl)
    g_BadLot := He.glo_ok X G (c.d.fact 27 rfl)
    g_BadPaper := He.glo_ok X G (c.d.fact 28 rfl)
    g_BadRun := He.glo_ok X G (c.d.fact 29 rfl)
    g_BadSeen := He.glo_ok X G (c.d.fact 30 rfl)
    g_BadSplit := He.glo_ok X G (c.d.fact 31 rfl)
    g_LevelError := He.glo_ok X G (c.d.fact 32 rfl)
    g_TooGreat := He.glo_ok X G (c.d.fact 33 rfl)
    tops := by decide +kernel
    x_BadDeed := exD_ok (cx.init 0 rfl) cb.1 sh_BadDeed
    x_BadFirm := exD_ok (cx.init 1 rfl) cb.2.1 sh_BadFirm
    x_BadLevels := exD_ok (cx.init 2 rfl) cb.2.2.1 sh_BadLevels
    x_BadLot := exD_ok (cx.init 3 rfl) cb.2.2.2.1 sh_BadLot
    x_BadPaper := exD_ok (cx.init 4 rfl) cb.2.2.2.2.1 sh_BadPaper
    x_BadRun := exD_ok (cx.init 5 rfl) cb.2.2.2.2.2.1 sh_BadRun
    x_BadSeen := exD_ok (cx.init 6 rfl) cb.2.2.2.2.2.2.1 sh_BadSeen
    x_BadSplit := exD_ok (cx.init 7 rfl) cb.2.2.2.2.2.2.2.1 sh_BadSplit
    x_TooGreat := exD_ok (cx.init 8 rfl) cb.2.2.2.2.2.2.2.2.1 sh_TooGreat
    ask := ⟨cb.2.2.2.2.2.2.2.2.2.1, (gx_cons (He.glo_ok X G (c.d.fact 27 rfl)) (gx_cons (He.glo_ok X G (c.d.fact 26 rfl)) (gx_cons (He.glo_ok X G (c.d.fact 29 rfl)) (gx_cons (He.glo_ok X G (c.d.fact 24 rfl)) (gx_cons (He.glo_ok X G (c.d.fact 31 rfl)) (gx_cons (He.glo_ok X G (c.d.fact 25 rfl)) (gx_cons (He.glo_ok X G (c.d.fact 30 rfl)) (gx_cons (He.glo_ok X G (c.d.fact 28 rfl)) (gx_cons (He.glo_ok X G (c.d.fact 33 rfl)) (gx_cons (He.glo_ok X G (c.d.fact 32 rfl)) gx_nil))))))))))⟩
    askT := ⟨cb.2.2.2.2.2.2.2.2.2.2.1, (gx_cons (He.glo_ok X G (c.d.fact 27 rfl)) (gx_cons (He.glo_ok X G (c.d.fact 26 rfl)) (gx_cons (He.glo_ok X G (c.d.fact 29 rfl)) (gx_cons (He.glo_ok X G (c.d.fact 24 rfl)) (gx_cons (He.glo_ok X G (c.d.fact 31 rfl)) (gx_cons (He.glo_ok X G (c.d.fact 25 rfl)) (gx_cons (He.glo_ok X G (c.d.fact 30 rfl)) (gx_cons (He.glo_ok X G (c.d.fact 28 rfl)) (gx_cons (He.glo_ok X G (c.d.fact 33 rfl)) (gx_cons (He.glo_ok X G (c.d.fact 32 rfl)) gx_nil))))))))))⟩
    z_LevelError := cb.2.2.2.2.2.2.2.2.2.2.2.1
    g_l_begun := He.glo_ok X G (c.d.fact 13 rfl)
    F_l_begun := F0
    b_l_begun := FunD.bindsN F0 fun _ _ _ _ _ _ us hl => match us, hl with | [_, _], _ => rfl
    g_l_draw := He.glo_ok X G (c.d.fact 14 rfl)
    F_l_draw := F1
    b_l_draw := FunD.bindsN F1 fun _ _ _ _ _ _ us hl => match us, hl with | [_, _], _ => rfl
    g_l_of := He.glo_ok X G (c.d.fact 15 rfl)
    F_l_of := F2
    b_l_of := FunD.bindsN F2 fun _ _ _ _ _ _ us hl => match us, hl with | [_, _], _ => rfl
    g_l_things := He.glo_ok X G (c.d.fact 16 rfl)
    F_l_things := F3
    b_l_things := FunD.bindsN F3 fun _ _ _ _ _ _ us hl => match us, hl with | [_], _ => rfl
    g_l_pairs := He.glo_ok X G (c.d.fact 17 rfl)
    F_l_pairs := F4
    b_l_pairs := FunD.bindsN F4 fun _ _ _ _ _ _ us hl => match us, hl with | [_], _ => rfl
    g_l_field := He.glo_ok X G (c.d.fact 18 rfl)
    F_l_field := F5
    b_l_field := FunD.bindsN F5 fun _ _ _ _ _ _ us hl => match us, hl with | [_, _], _ => rfl
    g_l_marks_of := He.glo_ok X G (c.d.fact 19 rfl)
    F_l_marks_of := F6
    b_l_marks_of := FunD.bindsN F6 fun _ _ _ _ _ _ us hl => match us, hl with | [_], _ => rfl
    g_l_above := He.glo_ok X G (c.d.fact 20 rfl)
    F_l_above := F7
    b_l_above := FunD.bindsN F7 fun _ _ _ _ _ _ us hl => match us, hl with | [_], _ => rfl
    g_l_made_right := He.glo_ok X G (c.d.fact 21 rfl)
    F_l_made_right := F8
    b_l_made_right := FunD.bindsN F8 fun _ _ _ _ _ _ us hl => match us, hl with | [_], _ => rfl
    g_l_thrown := He.glo_ok X G (c.d.fact 22 rfl)
    F_l_thrown := F9
    b_l_thrown := FunD.bindsN F9 fun _ _ _ _ _ _ us hl => match us, hl with | [_], _ => rfl
    g_law := He.glo_ok X G (c.d.fact 23 rfl)
    F_law := F10
    b_law := FunD.bindsN F10 fun _ _ _ _ _ _ us hl => match us, hl with | [_], _ => rfl
  }
end K25
end
section
namespace MS
open PySem PySem.Spec PyProof.Rows L2 MX
section
variable {α β σ ρ γ : Type}
theorem forR_none {step : α → Unit → RR (Rz Unit ρ)} : ∀ (l : List α), (∀ x ∈ l, step x () = .ok (.nx ())) → forR step l () = .ok (.nx ())
  | [], _ => rfl
  | x :: l, h => by
    unfold forR
    rw [h x (by simp)]
    exact forR_none l fun y hy => h y (by simp [hy])
end
theorem atI_nat {α : Type} {l : List α} {k : Nat} : atI l (k : Int) = l[k]? := by
  unfold atI ixN
  rw [if_pos (by omega)]
  by_cases h : k < l.length
  · rw [if_pos (by omega)]; simp
  · rw [if_neg (by omega), List.getElem?_eq_none (by omega)]; rfl
theorem atI_last {α : Type} {l : List α} : atI l (-1) = l.getLast? := by
  unfold atI ixN
  rw [if_neg (by omega)]
  by_cases h : l = []
  · subst h; rfl
  · have : 0 < l.length := List.length_pos_iff.mpr h
    rw [if_pos (by omega), List.getLast?_eq_getElem?]
    simp only [Option.bind_some]
    congr 1; omega
theorem rngN0 (n : Nat) : rngN 0 n = (List.range n).map fun i : Nat => (i : Int) := by simp [rngN]
theorem rng1_ok {n : Nat} (h : n ≤ 1000) : rng1R (n : Int) = .ok ((List.range n).map fun i : Nat => (i : Int)) := by
  unfold rng1R
  rw [if_pos (show RngOk (n : Int) from Nat.ble_eq.mpr (by omega)), show (n : Int).toNat = n by omega, rngN0]
end MS
end
section
namespace MS
open PySem PySem.Spec PyProof.Rows L2 MX
abbrev Lot := List (List (W × W))
def dd (L : Lot) (o : Nat) : List (W × W) := (L[o]?).getD []
structure Okc (L : Lot) (c : List Int) : Prop where
  n5 : L.length ≤ 5
  d5 : ∀ d ∈ L, d.length ≤ 5
  cr : ∀ x ∈ c, 0 ≤ x ∧ x < (L.length : Int)
  cnt : ∀ k : Nat, k < L.length → c.count (k : Int) = (dd L k).length + 1
  cl : c.length ≤ 30
def rowI (i : Nat) (c : List Int) (k : Int) : List Int := ((enumN i c).filter fun p => eqB p.2 k).map (·.1)
def rowT (c : List Int) (k : Nat) : List Int := rowI 0 c (k : Int)
theorem row_len (k : Int) : ∀ (c : List Int) (i : Nat), (rowI i c k).length = c.count k
  | [], i => rfl
  | x :: c, i => by
    have ih := row_len k c (i + 1)
    unfold rowI at ih ⊢
    unfold enumN
    rw [List.filter_cons, List.count_cons]
    by_cases h : x = k
    · simp [h, eqB, ih] at *; exact ih
    · simp [h, eqB] at *; exact ih
def la (c : List Int) (k : Nat) : Int := ((rowT c k).getLast?).getD 0
theorem la_get {c : List Int} {k : Nat} (h : 0 < c.count (k : Int)) : (rowT c k).getLast? = some (la c k) ∧ la c k ∈ rowT c k := by
  have hl : 0 < (rowT c k).length := by unfold rowT; rw [row_len]; exact h
  cases e : (rowT c k).getLast? with
  | none => rw [List.getLast?_eq_none_iff] at e; rw [e] at hl; cases hl
  | some x =>
    have : la c k = x := by unfold la; rw [e]; rfl
    rw [this]
    exact ⟨rfl, List.mem_of_getLast? e⟩
section
variable {L : Lot} {c : List Int}
theorem Okc.pos (h : Okc L c) {k : Nat} (hk : k < L.length) : 0 < c.count (k : Int) := by rw [h.cnt k hk]; omega
theorem Okc.last (h : Okc L c) {k : Nat} (hk : k < L.length) : atI (rowT c k) (-1) = some (la c k) := by
  rw [atI_last]; exact (la_get (h.pos hk)).1
end
def mks (L : Lot) (k : Nat) (w : W) : List Nat := (List.range L.length).filter fun o => !decide (o = k) && inB (w_mark, w) (dd L o)
def bst (c : List Int) (b : Option Nat) (o : Nat) : Option Nat := match b with
  | none => some o
  | some b' => if la c b' < la c o then some o else some b'
def sg (c : List Int) (cand : List Nat) : Option Nat := cand.foldl (bst c) none
end MS
end
section
namespace MS
open PySem PySem.Spec PyProof.Rows L2 MX
def lvk (lv : List W) (k : Nat) : W := (lv[k]?).getD w_late
def st (L : Lot) (k p : Nat) : W × W := ((dd L k)[p]?).getD (w_look, w_look)
def mo (L : Lot) (lv : List W) (c : List Int) (k p : Nat) : Int := ((rowT c k)[if lvk lv k = w_late then p else 0]?).getD 0
def cnd (L : Lot) (lv : List W) (c : List Int) (k p : Nat) : List Nat := (mks L k (st L k p).2).filter fun o => decide (la c o < mo L lv c k p)
def sgt (L : Lot) (lv : List W) (c : List Int) (k p : Nat) : Option Nat := sg c (cnd L lv c k p)
abbrev ci (o : Nat) : Int := (o : Int)
section
variable {L : Lot} {lv : List W} {c : List Int} {k p : Nat}
end
end MS
end
section
namespace MS
open PySem PySem.Spec PyProof.Rows L2 MX
abbrev Arr := Int × Int × W
section
variable {L : Lot} {lv : List W} {c : List Int} {k p : Nat}
def ths (d : List (W × W)) : List W := (d.filter fun s => eqB s.1 w_mark).map (·.2)
def isSh (L : Lot) (lv : List W) (c : List Int) (k p o : Nat) : Bool := match sgt L lv c k p with
  | some x => decide (la c o ≤ la c x)
  | none => false
end
end MS
end
section
namespace MS
open PySem PySem.Spec PyProof.Rows L2 MX
section
variable {L : Lot} {lv : List W} {c : List Int} {i j k p : Nat}
def lks (L : Lot) (k : Nat) : List Nat := (List.range (dd L k).length).filter fun p => eqB (st L k p).1 w_look
def ovB (L : Lot) (c : List Int) (i j : Nat) : Bool := ((ths (dd L i)).any fun w => inB (w_mark, w) (dd L j)) && decide (la c i < la c j)
def shB (L : Lot) (lv : List W) (c : List Int) (i j : Nat) : Bool := (lks L j).any fun p => inB (w_mark, (st L j p).2) (dd L i) && isSh L lv c j p i
def miB (L : Lot) (lv : List W) (c : List Int) (i j : Nat) : Bool := (lks L i).any fun p => inB (w_mark, (st L i p).2) (dd L j) && !isSh L lv c i p j
def blk (L : Lot) (lv : List W) (c : List Int) (i j : Nat) : List Arr := (if miB L lv c i j = true then [(ci i, ci j, w_missed)] else []) ++ ((if ovB L c i j = true then [(ci i, ci j, w_over)] else []) ++ (if shB L lv c i j = true then [(ci i, ci j, w_shown)] else []))
def row (L : Lot) (lv : List W) (c : List Int) (i : Nat) : List Arr := ((List.range L.length).filter fun j => !decide (j = i)).flatMap (blk L lv c i)
end
end MS
end
section
namespace MS
open PySem PySem.Spec PyProof.Rows L2 MX
structure SD (v : PV) (d w : Nat) : Prop where
  s : sm v = true
  d : dp v ≤ d
  w : wt v ≤ w
theorem SD.mono {v : PV} {d w d' w' : Nat} (h : SD v d w) (hd : d ≤ d') (hw : w ≤ w') : SD v d' w' := ⟨h.s, Nat.le_trans h.d hd, Nat.le_trans h.w hw⟩
theorem sd_s {x : W} {n : Nat} (h : x.1.length ≤ n) : SD (eS x) 0 (10 * n + 2) := ⟨by simpa [eS, sm] using x.2, Nat.le_refl _, by simp only [eS, wt]; omega⟩
theorem sd_v {α : Type} {e : α → PV} {l : List α} {d w n : Nat} (h : ∀ a ∈ l, SD (e a) d w) (hn : l.length ≤ n) : SD (eV e l) (d + 1) (n * (w + 2) + 3) := by
  refine ⟨sms_map fun a ha => (h a ha).s, ?_, ?_⟩
  · have := dps_map (f := e) (n := d) (l := l) fun a ha => (h a ha).d
    simp only [eV, dp]; omega
  · have := wts_map (f := e) (n := w) (l := l) fun a ha => (h a ha).w
    have h2 := Nat.mul_le_mul_right (w + 2) hn
    simp only [eV, wt]; omega
theorem sd_t2 {α β : Type} {e1 : α → PV} {e2 : β → PV} {p : α × β} {d w : Nat} (h1 : SD (e1 p.1) d w) (h2 : SD (e2 p.2) d w) : SD (eT2 e1 e2 p) (d + 1) (2 * w + 7) := by
  obtain ⟨a1, a2, a3⟩ := h1
  obtain ⟨b1, b2, b3⟩ := h2
  refine ⟨by simp [eT2, sm, sms, a1, b1], ?_, ?_⟩
  · simp only [eT2, dp, dps]; omega
  · simp only [eT2, wt, wts]; omega
structure AllOk (L : Lot) (lv : List W) (c : List Int) : Prop extends Okc L c where
  lvl : lv.length = L.length
  need : n_need_all L lv c = .ok ()
  wl : ∀ d ∈ L, ∀ s ∈ d, s.1.1.length ≤ 7 ∧ s.2.1.length ≤ 7
  ll : ∀ x ∈ lv, x.1.length ≤ 7
section
variable {L : Lot} {lv : List W} {c : List Int}
end
end MS
end
section
namespace MS
open PySem PySem.Spec PyProof.Rows L2 MX
def ww (s : Str) (h : PyData.strOk s = true := by decide +kernel) : W := ⟨s, h⟩
def words : List W := [ww "a", ww "b", ww "c", ww "d", ww "ab", ww "xy", ww "xyz"]
def isT : RR Bool → Bool
  | .ok true => true
  | _ => false
theorem isT_ok {r : RR Bool} (h : isT r = true) : r = .ok true := by
  unfold isT at h
  split at h
  · rfl
  · cases h
theorem things_all : (words.all fun w => isT (n_is_thing w) && decide (w.1.length ≤ 7)) = true := by decide +kernel
theorem thing_ok {w : W} (h : w ∈ words) : n_is_thing w = .ok true ∧ w.1.length ≤ 7 := by
  have := List.all_eq_true.mp things_all w h
  rw [Bool.and_eq_true, decide_eq_true_eq] at this
  exact ⟨isT_ok this.1, this.2⟩
structure DeOk (d : List (W × W)) : Prop where
  w : ∀ s ∈ d, s.2 ∈ words ∧ (s.1 = w_look ∨ s.1 = w_mark)
  f : ∀ (j : Nat) s, d[j]? = some s → s ∉ d.take j ∧ (s.1 = w_mark ∨ (w_mark, s.2) ∉ d.take j)
structure LoOk (L : Lot) : Prop where
  n1 : 1 ≤ L.length
  n5 : L.length ≤ 5
  de : ∀ d ∈ L, DeOk d ∧ 1 ≤ d.length ∧ d.length ≤ 5
def lvls : List W := [w_late, w_early, w_guarded]
end MS
end
section
namespace MS
open PySem PySem.Spec PyProof.Rows L2 MX
theorem it_lst {xs : List PV} {i : Nat} {x : PV} {S : Sto} (h : xs[i]? = some x) : vItem (.lst xs) (.int (i : Nat)) S = some (x, S) := by
  have := atI_nat (l := xs) (k := i)
  rw [h] at this
  unfold vItem
  simp only [seqOf, this]; rfl
def mach (l sd : Int) (cs : List Int) (sp : Int) : SO := .dct [(.inr "left", .int l), (.inr "seed", .int sd), (.inr "cells", .lst (cs.map .int)), (.inr "spot", .int sp)]
theorem mulI {a b : Int} {S : Sto} (h : (-(2 ^ 64) < a ∧ a < 2 ^ 64) ∨ (-(2 ^ 64) < b ∧ b < 2 ^ 64)) : vMulT (.int a) (.int b) S = some (.int (a * b), S) := by
  unfold vMulT vMul
  exact if_pos h
theorem modI {a b : Int} {S : Sto} (h : 0 < b) : vMod (.int a) (.int b) S = some (.int (a.fmod b), S) := if_pos (by omega)
theorem divI {a b : Int} {S : Sto} (h : 0 < b) (h2 : b < 1000000000) : vFDiv (.int a) (.int b) S = some (.int (a.fdiv b), S) := if_pos ⟨by omega, by omega⟩
theorem addI {a b : Int} {S : Sto} : vAdd (.int a) (.int b) S = some (.int (a + b), S) := rfl
theorem fmod_in {a b : Int} (h : 0 < b) : 0 ≤ a.fmod b ∧ a.fmod b < b := ⟨Int.fmod_nonneg_of_pos _ h, Int.fmod_lt_of_pos _ h⟩
section
variable {S : Sto} {i : Nat} {l sd sp : Int} {cs : List Int}
theorem d_left (h : S[i]? = some (mach l sd cs sp)) : vDItem (.ref i) (.str "left") S = some (.int l, S) := by unfold vDItem; simp only [h, mach]; rfl
theorem d_seed (h : S[i]? = some (mach l sd cs sp)) : vDItem (.ref i) (.str "seed") S = some (.int sd, S) := by unfold vDItem; simp only [h, mach]; rfl
theorem d_cells (h : S[i]? = some (mach l sd cs sp)) : vDItem (.ref i) (.str "cells") S = some (.lst (cs.map .int), S) := by unfold vDItem; simp only [h, mach]; rfl
theorem d_spot (h : S[i]? = some (mach l sd cs sp)) : vDItem (.ref i) (.str "spot") S = some (.int sp, S) := by unfold vDItem; simp only [h, mach]; rfl
theorem p_left {x : Int} (h : S[i]? = some (mach l sd cs sp)) : vSet (.ref i) (.str "left") (.int x) S = some (S.set i (mach x sd cs sp)) := by unfold vSet; simp only [h, mach]; rfl
theorem p_spot {x : Int} (h : S[i]? = some (mach l sd cs sp)) : vSet (.ref i) (.str "spot") (.int x) S = some (S.set i (mach l sd cs x)) := by unfold vSet; simp only [h, mach]; rfl
end
theorem draw_ok {S : Sto} {i : Nat} {l sd sp many : Int} {cs : List Int} (h : S[i]? = some (mach l sd cs sp)) (hc : cs ≠ []) (h0 : 0 ≤ sp) (h1 : sp < 1000000000) (m0 : 0 < many) (m1 : many < 1000000) :
    ∃ d l' sp', bodyF 8 t_l_draw [.ref i, .int many] S = .ok (.int d) (S.set i (mach l' sd cs sp')) ∧ 0 ≤ d ∧ d < many ∧ sp ≤ sp' ∧ sp' ≤ sp + 1 := by
  have hi := (List.getElem?_eq_some_iff.mp h).1
  by_cases hl : 0 < l
  · refine ⟨l.fmod many, l.fdiv many, sp, ?_, (fmod_in m0).1, (fmod_in m0).2, by omega, by omega⟩
    have f1 := d_left h
    have f2 := modI (a := l) (S := S) m0
    have f3 := divI (a := l) (S := S) m0 (by omega)
    have f4 := p_left (x := l.fdiv many) h
    simp only [t_l_draw]
    simp [f1, f2, f3, f4, hl]
  · have hS1 : (S.set i (mach l sd cs (sp + 1)))[i]? = some (mach l sd cs (sp + 1)) := List.getElem?_set_self hi
    obtain ⟨S1, e1⟩ : ∃ S1, S1 = S.set i (mach l sd cs (sp + 1)) := ⟨_, rfl⟩
    rw [← e1] at hS1
    have hlen : 0 < cs.length := List.length_pos_iff.mpr hc
    obtain ⟨j, ej⟩ : ∃ j, j = sp.fmod (cs.length : Nat) := ⟨_, rfl⟩
    have hj := fmod_in (a := sp) (b := (cs.length : Nat)) (by omega)
    rw [← ej] at hj
    have hjn : j.toNat < cs.length := by omega
    have f1 := d_left h
    have f2 := d_spot h
    have f3 := p_spot (x := sp + 1) h
    rw [← e1] at f3
    have g1 := d_cells hS1
    have g2 := d_seed hS1
    have a1 := mulI (a := 40503) (b := sp) (S := S1) (.inl ⟨by omega, by omega⟩)
    have a2 := mulI (a := 40503 * sp) (b := sp) (S := S1) (.inr ⟨by omega, by omega⟩)
    have b1 : vMod (.int sp) (.int (cs.length : Nat)) S1 = some (.int j, S1) := by rw [ej]; exact modI (by omega)
    have b2 : vItem (.lst (cs.map PV.int)) (.int j) S1 = some (.int cs[j.toNat], S1) := by
      have q := it_lst (xs := cs.map PV.int) (i := j.toNat) (x := PV.int cs[j.toNat]) (S := S1) (by rw [List.getElem?_map, List.getElem?_eq_getElem hjn]; rfl)
      rw [show ((j.toNat : Nat) : Int) = j by omega] at q
      exact q
    obtain ⟨x, ex⟩ : ∃ x, x = cs[j.toNat] := ⟨_, rfl⟩
    rw [← ex] at b2
    have c1 := mulI (a := 2) (b := sp) (S := S1) (.inl ⟨by omega, by omega⟩)
    have c2 := mulI (a := x) (b := 2 * sp + 3) (S := S1) (.inr ⟨by omega, by omega⟩)
    obtain ⟨y, ey⟩ : ∃ y, y = (x * (2 * sp + 3) + (sd + 40503 * sp * sp)).fmod 2147483647 := ⟨_, rfl⟩
    have c3 : vMod (.int (x * (2 * sp + 3) + (sd + 40503 * sp * sp))) (.int 2147483647) S1 = some (.int y, S1) := by rw [ey]; exact modI (by omega)
    have hy : 0 ≤ y ∧ y < 2147483647 := by rw [ey]; exact fmod_in (by omega)
    have d1 := mulI (a := y) (b := y) (S := S1) (.inr ⟨by omega, by omega⟩)
    have d2 := mulI (a := 69621) (b := sp) (S := S1) (.inl ⟨by omega, by omega⟩)
    obtain ⟨z, ez⟩ : ∃ z, z = (y * y + 69621 * sp + sd).fmod 2147483629 := ⟨_, rfl⟩
    have d3 : vMod (.int (y * y + 69621 * sp + sd)) (.int 2147483629) S1 = some (.int z, S1) := by rw [ez]; exact modI (by omega)
    have n1 := mulI (a := z) (b := 48271) (S := S1) (.inr ⟨by omega, by omega⟩)
    have n2 := modI (a := z * 48271 + sp) (b := 2147483647) (S := S1) (by omega)
    have n3 := divI (a := (z * 48271 + sp).fmod 2147483647) (b := 11) (S := S1) (by omega) (by omega)
    have n4 := modI (a := ((z * 48271 + sp).fmod 2147483647).fdiv 11) (b := many) (S := S1) m0
    refine ⟨(((z * 48271 + sp).fmod 2147483647).fdiv 11).fmod many, l, sp + 1, ?_, (fmod_in m0).1, (fmod_in m0).2, by omega, by omega⟩
    rw [← e1]
    simp only [t_l_draw]
    simp [-s_vItem, f1, f2, f3, hl, g1, g2, a1, a2, b1, b2, c1, c2, c3, d1, d2, d3, n1, n2, n3, n4, addI]
/-- the machine stands at i, at most n draws were drawn -/
def Ma (i : Nat) (n : Int) (S : Sto) : Prop := ∃ l sd cs sp, S[i]? = some (mach l sd cs sp) ∧ cs ≠ [] ∧ 0 ≤ sp ∧ sp ≤ n
/-- but for the machine, all stands -/
structure Ch (i : Nat) (S S' : Sto) : Prop where
  le : S.length ≤ S'.length
  eq : ∀ j, j < S.length → j ≠ i → S'[j]? = S[j]?
theorem Ch.refl {i : Nat} {S : Sto} : Ch i S S := ⟨Nat.le_refl _, fun _ _ _ => rfl⟩
theorem Ch.trans {i : Nat} {S S1 S2 : Sto} (a : Ch i S S1) (b : Ch i S1 S2) : Ch i S S2 := ⟨Nat.le_trans a.le b.le, fun j h1 h2 => (b.eq j (Nat.lt_of_lt_of_le h1 a.le) h2).trans (a.eq j h1 h2)⟩
theorem Ma.mono {i : Nat} {n m : Int} {S : Sto} (h : Ma i n S) (k : n ≤ m) : Ma i m S := by
  obtain ⟨l, sd, cs, sp, a, b, c, d⟩ := h
  exact ⟨l, sd, cs, sp, a, b, c, by omega⟩
theorem Ma.lt {i : Nat} {n : Int} {S : Sto} (h : Ma i n S) : i < S.length := by
  obtain ⟨l, sd, cs, sp, a, b, c, d⟩ := h
  exact (List.getElem?_eq_some_iff.mp a).1
theorem Ma.at {i : Nat} {n : Int} {S S' : Sto} (h : Ma i n S) (e : S'[i]? = S[i]?) : Ma i n S' := by
  obtain ⟨l, sd, cs, sp, a, b, c, d⟩ := h
  exact ⟨l, sd, cs, sp, by rw [e]; exact a, b, c, d⟩
theorem mach_b {l sd sp : Int} {cs : List Int} : belowO 0 (mach l sd cs sp) = true := by
  unfold mach belowO
  simp only [List.all_cons, List.all_nil, below, Bool.and_true, Bool.true_and]
  exact belows_map (e := eI) cs
/-- what a def does to the machine alone, it does anywhere -/
theorem obj_lift {N : Nat} {t : Ss} {S : Sto} {i : Nat} {n m : Int} {as : List PV} {P : PV → Prop} (h : Ma i n S) (hb : belows 0 as = true) (hP : ∀ v, P v → below 0 v = true)
    (run : ∀ S0, Ma 0 n S0 → S0.length = 1 → ∃ v S', bodyF N t (.ref 0 :: as) S0 = .ok v S' ∧ P v ∧ Ma 0 m S') :
    ∃ v S', liftO (objF (bodyF N t)) (.ref i :: as) S = .ok v S' ∧ P v ∧ Ma i m S' ∧ Ch i S S' ∧ S'.length = S.length := by
  have hi := h.lt
  obtain ⟨l, sd, cs, sp, a, b, c, d⟩ := h
  obtain ⟨v, S', e, p, l', sd', cs', sp', a', b', c', d'⟩ := run [mach l sd cs sp] ⟨l, sd, cs, sp, rfl, b, c, d⟩ rfl
  have q : objF (bodyF N t) (mach l sd cs sp) as = .ok (v, mach l' sd' cs' sp') := by
    unfold objF
    rw [if_pos ⟨hb, mach_b⟩, e]
    simp only [thaw, if_pos (hP v p), a']
    rw [if_pos mach_b]
  refine ⟨v, S.set i (mach l' sd' cs' sp'), ?_, p, ⟨l', sd', cs', sp', List.getElem?_set_self hi, b', c', d'⟩, ⟨by simp, fun j _ hj => List.getElem?_set_ne (fun z => hj z.symm)⟩, by simp⟩
  unfold liftO
  simp only [a]
  have : mach l sd cs sp ≠ .dead := by intro z; cases z
  unfold mach at this q ⊢
  simp only [q]
theorem draw {S : Sto} {i : Nat} {n many : Int} (h : Ma i n S) (hn : n < 999999999) (m0 : 0 < many) (m1 : many < 1000000) :
    ∃ (d : Nat) (S' : Sto), m_l_draw [.ref i, .int many] S = .ok (.int (d : Nat)) S' ∧ (d : Int) < many ∧ Ma i (n + 1) S' ∧ Ch i S S' ∧ S'.length = S.length := by
  obtain ⟨v, S', e, ⟨d, rfl, hd⟩, r⟩ := obj_lift (N := 8) (t := t_l_draw) (as := [.int many]) (P := fun v => ∃ d : Nat, v = .int (d : Nat) ∧ (d : Int) < many) (m := n + 1) h rfl (fun v ⟨d, e, _⟩ => by rw [e]; rfl) (fun S0 h0 _ => by
    have hi := h0.lt
    obtain ⟨l, sd, cs, sp, a, b, c, d⟩ := h0
    obtain ⟨x, l', sp', e, x0, x1, s0, s1⟩ := draw_ok a b c (by omega) m0 m1
    exact ⟨_, _, e, ⟨x.toNat, by rw [show ((x.toNat : Nat) : Int) = x by omega], by omega⟩, ⟨l', sd, cs, sp', List.getElem?_set_self hi, b, by omega, by omega⟩⟩)
  exact ⟨d, S', e, hd, r⟩
end MS
end
section
namespace MS
open PySem PySem.Spec PyProof.Rows L2 MX
abbrev Step := W × W
abbrev loP : Lot → PV := eV (eV (eT2 eS eS))
structure DeOk0 (d : List Step) : Prop where
  w : ∀ s ∈ d, s.2 ∈ words ∧ (s.1 = w_look ∨ s.1 = w_mark)
  f : ∀ (j : Nat) s, d[j]? = some s → s ∉ d.take j ∧ (s.1 = w_mark ∨ (w_mark, s.2) ∉ d.take j)
theorem DeOk0.snoc {d : List Step} {s : Step} (h : DeOk0 d) (hw : s.2 ∈ words ∧ (s.1 = w_look ∨ s.1 = w_mark)) (h1 : s ∉ d) (h2 : s.1 = w_mark ∨ (w_mark, s.2) ∉ d) : DeOk0 (d ++ [s]) := by
  refine ⟨fun x hx => ?_, fun j t ht => ?_⟩
  · rcases List.mem_append.mp hx with hx | hx
    · exact h.w x hx
    · rw [List.mem_singleton.mp hx]; exact hw
  · by_cases hj : j < d.length
    · rw [List.getElem?_append_left hj] at ht
      rw [List.take_append_of_le_length (by omega)]
      exact h.f j t ht
    · have : j = d.length := by
        have := (List.getElem?_eq_some_iff.mp ht).1
        simp at this; omega
      subst this
      simp at ht
      subst ht
      rw [show List.take d.length (d ++ [s]) = d by simp]
      exact ⟨h1, h2⟩
end MS
end
section
namespace MS
open PySem PySem.Spec PyProof.Rows L2 MX
end MS
end
section
namespace MS
open PySem PySem.Spec PyProof.Rows L2 MX
theorem sxLc_fz {ti : Si} {is : List Nat} {t : Sg} {c : St'} {te : Sx} {sp : Sl} {S S1 S2 : Sto} {xs ys : List PV} (h1 : ti sp S = .ok (.items xs) S1) (h2 : lcL (wipeP sp is) t c te xs S1 = .ok ys S2) (h3 : Fits ys.length) : sxLc fzL ti is t c te sp S = .ok (.lst ys) S2 := by
  rw [s_sxLc, h1]
  show (Out.pure (lcL (wipeP sp is) t c te xs S1) fun ys S2 => Out.of (fzL ys S2)) = _
  rw [h2]
  show Out.of (fzL _ _) = _
  rw [s_fzL, if_pos h3]
def inP (l : List Nat) : List PV := l.map fun k => PV.int (k : Nat)
theorem set_sum : ∀ {l : List Nat} {k v : Nat}, l[k]? = some (v + 1) → (l.set k v).sum + 1 = l.sum
  | [], _, _, h => by simp at h
  | a :: l, 0, v, h => by simp at h; subst h; simp; omega
  | a :: l, k + 1, v, h => by
    have := set_sum (l := l) (k := k) (v := v) (by simpa using h)
    simp only [List.set_cons_succ, List.sum_cons]; omega
structure CI (L : Lot) (i r : Nat) (n : Int) (S0 : Sto) (lf c : List Nat) (S : Sto) : Prop where
  left : S[r]? = some (.lst (inP lf))
  found : S[r + 1]? = some (.lst (inP c))
  ll : lf.length = L.length
  lt : ∀ k ∈ c, k < L.length
  cnt : ∀ k d, L[k]? = some d → ∃ v, lf[k]? = some v ∧ v + c.count k = d.length + 1
  sum : c.length + lf.sum = (L.map fun d => d.length + 1).sum
  ma : Ma i (n + 2 * c.length) S
  len : S.length = r + 2
  eq : ∀ x, x < r → x ≠ i → S[x]? = S0[x]?
theorem end_of {vs : List Nat} {t : Ss} {sp sp' : Sl} {S S' : Sto} (h : t sp S = .nx sp' S') : ssEnd vs t sp S = .nx (wipeP sp' vs) S' := by
  unfold ssEnd
  rw [h]
end MS
end
section
namespace MS
open PySem PySem.Spec PyProof.Rows L2 MX
structure CoOk (L : Lot) (c : List Int) : Prop extends Okc L c where
  sum : (c.length : Int) = (L.map fun d => (d.length : Int) + 1).sum
end MS
end
section
namespace MS
open PySem PySem.Spec PyProof.Rows L2 MX
def ins (l : List Int) : PV := .lst (l.map PV.int)
theorem cut_ints (l : List Int) (lo hi : Option Int) : ∃ l' : List Int, cutP (l.map PV.int) lo hi = l'.map PV.int ∧ l'.length ≤ l.length := by
  unfold cutP
  refine ⟨(l.drop (HT.sIx (l.map PV.int).length 0 lo)).take (HT.sIx (l.map PV.int).length (l.map PV.int).length hi - HT.sIx (l.map PV.int).length 0 lo), by rw [List.map_take, List.map_drop], ?_⟩
  rw [List.length_take, List.length_drop]; omega
theorem toDs_ints : ∀ l : List Int, toDs (l.map PV.int) = some (l.map PyData.int)
  | [] => rfl
  | a :: l => by simp [toDs, toDs_ints l, toD]
theorem ne_ints {l : List Int} {S : Sto} : vNe (ins l) (.lst []) S = some (.bl (!l.isEmpty), S) := by
  have h1 : ∀ l : List Int, PyData.canLayAll0 (l.map PyData.int) = true := fun l => by
    induction l with
    | nil => rfl
    | cons a l ih => simp [PyData.canLayAll0, PyData.canLay0, ih]
  have h2 : ∀ l : List Int, PyData.depthAll (l.map PyData.int) = 0 := fun l => by
    induction l with
    | nil => rfl
    | cons a l ih => simp [PyData.depthAll, PyData.depth, ih]
  have d1 : dOf S (ins l) = some (.list (l.map PyData.int)) := by
    show (toDs (l.map PV.int)).map PyData.list = _
    rw [toDs_ints]; rfl
  have d2 : dOf S (.lst []) = some (.list []) := rfl
  have sh : SeqAt.shaped (.list (l.map PyData.int)) = true := by
    unfold SeqAt.shaped
    simp [PyData.canLay0, PyData.depth, h1, h2]
  unfold vNe
  rw [d1, d2]
  show (if _ ∧ _ then _ else _) = _
  rw [if_pos ⟨sh, rfl⟩]
  congr 3
  cases l <;> rfl
theorem begun_run {ns : List Int} {k : Nat} (S : Sto) (hn : ns.length ≤ 63) (hk : k < 100) : ∃ l sd cs, bodyF 6 t_l_begun [ins ns, .int (k : Nat)] S = .ok (.ref S.length) (S ++ [mach l sd cs 0]) ∧ cs ≠ [] := by
  obtain ⟨c1, a1, b1⟩ := cut_ints ns (some (k : Nat)) none
  obtain ⟨c2, a2, b2⟩ := cut_ints ns none (some (k : Nat))
  have f1 : vSl (ins ns) (some (k : Nat)) none S = some (ins c1, S) := by
    show some (PV.lst (cutP (ns.map PV.int) (some (k : Nat)) none), S) = _
    rw [a1]; rfl
  have f2 : vSl (ins ns) none (some (k : Nat)) S = some (ins c2, S) := by
    show some (PV.lst (cutP (ns.map PV.int) none (some (k : Nat))), S) = _
    rw [a2]; rfl
  have addL : ∀ (x y : List Int), x.length + y.length ≤ 1000 → vAdd (ins x) (ins y) S = some (ins (x ++ y), S) := fun x y h => by
    show (if (x.map PV.int).length + (y.map PV.int).length ≤ sizeLine then _ else _) = _
    rw [if_pos (by rw [List.length_map, List.length_map]; exact Nat.le_trans h (by decide)), ← List.map_append]; rfl
  have f3 := addL c1 c2 (by omega)
  obtain ⟨cs, ecs⟩ : ∃ cs, cs = c1 ++ c2 := ⟨_, rfl⟩
  have hcs : cs.length ≤ 126 := by rw [ecs, List.length_append]; omega
  rw [← ecs] at f3
  have f4 : vPow (.int 10) (.int 18) S = some (.int 1000000000000000000, S) := rfl
  have g0 := lcL_map (sp := [some (ins ns), some (.int (k : Nat)), some (ins cs), none, none, none]) (t := sgName 5) (c := t_l_begun_1) (te := t_l_begun_2) (S := S) PV.int PV.int (fun x => decide ((1000000000000000000 : Int) ≤ x)) cs fun x hx => ⟨_, rfl, by simp only [t_l_begun_1]; simp [f4], fun _ => by simp [t_l_begun_2]⟩
  obtain ⟨gs, egs⟩ : ∃ gs, gs = cs.filter fun x => decide ((1000000000000000000 : Int) ≤ x) := ⟨_, rfl⟩
  rw [← egs] at g0
  have hgs : gs.length ≤ 126 := by rw [egs]; exact Nat.le_trans (List.length_filter_le _ _) hcs
  have g1 := sxLc_fz (is := [5]) (t := sgName 5) (c := t_l_begun_1) (te := t_l_begun_2) (ti := siSeq (sxVar 2)) (sp := [some (ins ns), some (.int (k : Nat)), some (ins cs), none, none, none]) (S := S) (S1 := S) (by unfold ins; simp) g0 (fits_of (by rw [List.length_map]; omega))
  obtain ⟨sp', S', l1, rfl, sd, rfl⟩ := forL_inv0 (t := sgName 5) (b := t_l_begun_3) (fun _ sp S' => S' = S ∧ ∃ (sd : Int), sp = [some (ins ns), some (.int (k : Nat)), some (ins cs), some (ins gs), some (.int sd), none]) (xs := cs.map PV.int)
    (sp := [some (ins ns), some (.int (k : Nat)), some (ins cs), some (ins gs), some (.int (89 + (k : Nat))), none]) (S := S) ⟨rfl, _, rfl⟩ (fun j x sp S' hx ⟨e1, sd, e2⟩ => by
      subst e1 e2
      obtain ⟨y, q, rfl⟩ := map_get hx
      have m1 := mulI (a := sd) (b := 48271) (S := S') (.inr ⟨by omega, by omega⟩)
      have m2 := modI (a := sd * 48271 + y) (b := 2147483647) (S := S') (by omega)
      refine ⟨_, [some (ins ns), some (.int (k : Nat)), some (ins cs), some (ins gs), some (.int ((sd * 48271 + y).fmod 2147483647)), none], S', rfl, .inl ?_, rfl, _, rfl⟩
      unfold t_l_begun_3
      refine (end_of (sp' := [some (ins ns), some (.int (k : Nat)), some (ins cs), some (ins gs), some (.int ((sd * 48271 + y).fmod 2147483647)), some (.int y)]) ?_).trans rfl
      simp [m1, m2, addI])
  have h1 := ne_ints (l := gs) (S := S')
  have h2 := mulI (a := 29) (b := (k : Nat)) (S := S') (.inl ⟨by omega, by omega⟩)
  have h3 := addL cs [29 * ((k : Nat) : Int) + 7] (by simp; omega)
  have g1' : (sxLc fzL (siSeq (sxVar 2)) [5] (sgName 5) t_l_begun_1 t_l_begun_2) [some (ins ns), some (.int (k : Nat)), some (ins cs), none, none, none] S' = .ok (ins gs) S' := g1
  have key : ∀ l : Int, (sxIf (stB (sx2 vNe (sxVar 3) (sxN vLst saNil))) (sx2 vItem (sxVar 3) (sxC (.int 0))) (sxC (.int 0))) [some (ins ns), some (.int (k : Nat)), some (ins cs), some (ins gs), some (.int sd), none] S' = .ok (.int l) S' → bodyF 6 t_l_begun [ins ns, .int (k : Nat)] S' = .ok (.ref S'.length) (S' ++ [mach l sd (cs ++ [29 * ((k : Nat) : Int) + 7]) 0]) := fun l hl => by
    have h3' : vAdd (ins cs) (.lst [.int (29 * ((k : Nat) : Int) + 7)]) S' = some (ins (cs ++ [29 * ((k : Nat) : Int) + 7]), S') := h3
    have l1' : forL (sgName 5) t_l_begun_3 (cs.map PV.int) [some (ins ns), some (.int (k : Nat)), some (ins cs), some (ins gs), some (.int (89 + (k : Nat))), none] S' = _ := l1
    have src : srcOf (ins cs) S' = .ok (.items (cs.map PV.int)) S' := rfl
    have wp : ssWp [5] (ssFor (siSeq (sxVar 2)) (sgName 5) t_l_begun_3) [some (ins ns), some (.int (k : Nat)), some (ins cs), some (ins gs), some (.int (89 + (k : Nat))), none] S' = .nx [some (ins ns), some (.int (k : Nat)), some (ins cs), some (ins gs), some (.int sd), none] S' := by
      unfold ssWp
      rw [s_ssFor]
      exact l1'
    simp only [t_l_begun]
    simp [wp, -s_sxLc, -s_sxIf, -s_srcOf, f1, f2, f3, g1', addI, hl, h2, h3', sxDisp, saPairs]
    rfl
  cases hg : gs with
  | nil =>
    rw [hg] at h1
    exact ⟨0, sd, cs ++ [29 * ((k : Nat) : Int) + 7], key 0 (by rw [hg]; simp [h1]), by simp⟩
  | cons g r =>
    rw [hg] at h1
    have i0 : vItem (ins (g :: r)) (.int 0) S' = some (.int g, S') := it_lst (i := 0) (xs := (g :: r).map PV.int) rfl
    exact ⟨g, sd, cs ++ [29 * ((k : Nat) : Int) + 7], key g (by rw [hg]; simp [-s_vItem, h1, i0]), by simp⟩
end MS
end
section
namespace MS
open PySem PySem.Spec PyProof.Rows L2 MX
def ext1 (L : Lot) (r : List Int) (k : Nat) : List (List Int) := if r.count (ci k) < (dd L k).length + 1 then [r ++ [ci k]] else []
def ext (L : Lot) (r : List Int) : List (List Int) := (List.range L.length).flatMap (ext1 L r)
structure RowI (L : Lot) (t : Nat) (r : List Int) : Prop where
  len : r.length = t
  rg : ∀ x ∈ r, 0 ≤ x ∧ x < (L.length : Int)
  cnt : ∀ k, k < L.length → r.count (ci k) ≤ (dd L k).length + 1
end MS
end
section
namespace MS
open PySem PySem.Spec PyProof.Rows L2 MX
section
variable {L : Lot} {lv : List W} {c : List Int} {i j k p : Nat}
def fi (c : List Int) (k : Nat) : Int := ((rowT c k)[0]?).getD 0
def ovl (c : List Int) (i j : Nat) : Bool := decide (fi c i < la c j) && decide (fi c j < la c i)
def pin (c : List Int) (a b d : Nat) : Bool := (ovl c a b && ovl c b d) && (decide (la c d < la c b) && (decide (a = d) || decide (la c d < la c a)))
end
end MS
end
section
namespace MS
open PySem PySem.Spec PyProof.Rows L2 MX
section
variable {L : Lot} {lv : List W} {c : List Int} {i j k p : Nat}
end
end MS
end
section
namespace MS
open PySem PySem.Spec PyProof.Rows L2 MX
/-- a + b over b -/
def ch : Nat → Nat → Nat
  | 0 => fun _ => 1
  | a + 1 => fun b => Nat.rec 1 (fun j r => ch a (j + 1) + r) b
/-- the product over the deeds: c things each, ahead of them w -/
def mulN : List Nat → Nat → Nat
  | [], _ => 1
  | c :: l, w => ch w c * mulN l (w + c)
def iter (f : List Int → List (List Int)) : Nat → List (List Int) → List (List Int)
  | 0, rows => rows
  | n + 1, rows => iter f n (rows.flatMap f)
/-- what is left of a row -/
def left (L : Lot) (r : List Int) (k : Nat) : Nat := (dd L k).length + 1 - r.count (ci k)
def total (L : Lot) : Nat := (L.map fun d => d.length + 1).sum
def manyN (L : Lot) : Nat := mulN (L.map fun d => d.length + 1) 0
end MS
end
section
namespace MS
open PySem PySem.Spec PyProof.Rows L2 MX
/-- a lot that the program takes -/
structure LoX (L : Lot) : Prop where
  n5 : L.length ≤ 5
  d5 : ∀ d ∈ L, d.length ≤ 5
  need : n_need_lot L = .ok L
theorem LoX.tot {L : Lot} (h : LoX L) : (L.map fun d => d.length + 1).sum ≤ 30 := by
  have h1 : ∀ l : Lot, (∀ d ∈ l, d.length ≤ 5) → (l.map fun d => d.length + 1).sum ≤ 6 * l.length := fun l => by
    induction l with
    | nil => exact fun _ => Nat.le_refl _
    | cons a l ih =>
      intro hl
      have q1 := hl a (List.mem_cons_self ..)
      have q2 := ih fun x hx => hl x (List.mem_cons_of_mem _ hx)
      simp only [List.map_cons, List.sum_cons, List.length_cons]
      omega
  have q1 := h1 L h.d5
  have q2 := h.n5
  omega
section
variable {L : Lot} (h : LoX L) (hm : manyN L ≤ 2000)
end
end MS
end
section
namespace MS
open PySem PySem.Spec PyProof.Rows L2 MX
section
variable {L : Lot} {lv : List W} {c : List Int}
end
end MS
end
section
namespace MS
open PySem PySem.Spec PyProof.Rows L2 MX
/-- at most n draws were drawn -/
def Mg (n : Nat) (m : Mc) : Prop := m.cs ≠ [] ∧ 0 ≤ m.sp ∧ m.sp ≤ (n : Int)
theorem Mg.mono {n k : Nat} {m : Mc} (h : Mg n m) (hk : n ≤ k) : Mg k m := ⟨h.1, h.2.1, by have := h.2.2; omega⟩
/-- within so many draws it gives what is told -/
def Wk {α : Type} (o : WR Mc α) (k : Nat) (P : α → Prop) : Prop := ∀ n m, n + k ≤ 900000000 → Mg n m → ∃ a m', o m = .ok (a, m') ∧ P a ∧ Mg (n + k) m'
section
variable {α β γ σ ρ : Type} {P : α → Prop} {Q : β → Prop} {k j : Nat}
theorem wk_of {o : RR α} {a : α} (e : o = .ok a) (h : P a) : Wk (WR.of o) 0 P := fun n m _ hm => ⟨a, m, by unfold WR.of; rw [e]; rfl, h, hm⟩
theorem wk_ok {a : α} (h : P a) : Wk (WR.of (.ok a)) 0 P := wk_of rfl h
theorem wk_bnd {o : WR Mc α} {f : α → WR Mc β} (h : Wk o k P) (hf : ∀ a, P a → Wk (f a) j Q) : Wk (o.bnd f) (k + j) Q := fun n m hn hm => by
  obtain ⟨a, m1, e1, pa, h1⟩ := h n m (by omega) hm
  obtain ⟨b, m2, e2, pb, h2⟩ := hf a pa (n + k) m1 (by omega) h1
  exact ⟨b, m2, by unfold WR.bnd; rw [e1]; exact e2, pb, by rw [← Nat.add_assoc]; exact h2⟩
theorem wk_mono {o : WR Mc α} {P' : α → Prop} (h : Wk o k P) (hk : k ≤ j) (hp : ∀ a, P a → P' a) : Wk o j P' := fun n m hn hm => by
  obtain ⟨a, m1, e1, pa, h1⟩ := h n m (by omega) hm
  exact ⟨a, m1, e1, hp a pa, h1.mono (by omega)⟩
theorem wk_nox {o : WR Mc α} (h : Wk o k P) : Wk o.nox k P := fun n m hn hm => by
  obtain ⟨a, m1, e1, pa, h1⟩ := h n m hn hm
  exact ⟨a, m1, by unfold WR.nox; rw [e1]; rfl, pa, h1⟩
theorem decL_map : ∀ l : List Int, decL (l.map .int) = some l
  | [] => rfl
  | i :: l => by simp only [List.map_cons, decL, decL_map l]; rfl
theorem decM_mach (m : Mc) : decM (machO m) = some m := by
  unfold machO decM
  simp only [if_true, and_self, decL_map]
  rfl
theorem draw_w {many : Int} (m0 : 0 < many) (m1 : many < 1000000) : Wk (n_l_draw many) 1 (fun d => 0 ≤ d ∧ d < many) := fun n m hn hm => by
  obtain ⟨d, l', sp', e, d0, d1, s0, s1⟩ := draw_ok (S := [machO m]) (i := 0) (l := m.l) (sd := m.sd) (sp := m.sp) (many := many) (cs := m.cs) rfl hm.1 hm.2.1 (by have := hm.2.2; omega) m0 m1
  refine ⟨d, ⟨l', m.sd, m.cs, sp'⟩, ?_, ⟨d0, d1⟩, hm.1, by have := hm.2.1; show 0 ≤ sp'; omega, by have := hm.2.2; show sp' ≤ _; push_cast; omega⟩
  have q : p_l_draw (machO m) [eI many] = .ok (.int d, machO ⟨l', m.sd, m.cs, sp'⟩) := by
    show objF (bodyF 8 t_l_draw) (machO m) [.int many] = _
    unfold objF
    rw [if_pos ⟨rfl, machO_b m⟩, e]
    have e2 : ([machO m].set 0 (mach l' m.sd m.cs sp'))[0]? = some (machO ⟨l', m.sd, m.cs, sp'⟩) := rfl
    simp only [thaw, show below 0 (PV.int d) = true from rfl, if_true, e2]
    rw [if_pos (machO_b _)]
  unfold n_l_draw
  rw [q]
  simp only [decM_mach]
theorem ofL_w {l : List α} (h0 : 0 < l.length) (h1 : l.length < 1000000) : Wk (WR.nox (n_l_ofL l)) 1 (· ∈ l) := by
  refine wk_nox (wk_bnd (k := 1) (j := 0) (draw_w (by omega) (by omega)) fun d hd => ?_)
  have hd' : d.toNat < l.length := by omega
  refine wk_of (a := l[d.toNat]) ?_ (List.getElem_mem hd')
  have e : atI l d = some l[d.toNat] := by
    have := atI_nat (l := l) (k := d.toNat)
    rw [show ((d.toNat : Nat) : Int) = d by omega, List.getElem?_eq_getElem hd'] at this
    exact this
  rw [e]; rfl
theorem lcW_w {f : α → WR Mc γ} {R : α → γ → Prop} : ∀ (l : List α), (∀ x ∈ l, Wk (f x) k (R x)) → Wk (lcW (fun _ => WR.of (.ok true)) f l) (l.length * k) (fun r => r.length = l.length ∧ ∀ y ∈ r, ∃ x ∈ l, R x y)
  | [], _ => fun n m _ hm => ⟨[], m, rfl, ⟨rfl, fun y hy => by cases hy⟩, by simpa using hm⟩
  | x :: l, h => fun n m hn hm => by
    have hl : (x :: l).length * k = k + l.length * k := by rw [List.length_cons, Nat.succ_mul]; omega
    obtain ⟨y, m1, e1, p1, h1⟩ := h x (.head _) n m (by omega) hm
    obtain ⟨r, m2, e2, ⟨p2, p3⟩, h2⟩ := lcW_w l (fun z hz => h z (.tail _ hz)) (n + k) m1 (by omega) h1
    refine ⟨y :: r, m2, ?_, ⟨by rw [List.length_cons, p2, List.length_cons], fun z hz => ?_⟩, by rw [hl, ← Nat.add_assoc]; exact h2⟩
    · simp only [lcW, WR.of, RR.bnd_ok, e1, e2]
    · rcases List.mem_cons.mp hz with rfl | hz
      · exact ⟨x, .head _, p1⟩
      · obtain ⟨w, hw, q⟩ := p3 z hz
        exact ⟨w, .tail _ hw, q⟩
end
end MS
end
section
namespace MS
open PySem PySem.Spec PyProof.Rows L2 MX
section
variable {α β : Type} {P : α → Prop} {Q : β → Prop} {k n N : Nat} {m : Mc}
/-- one step of a reading with a machine -/
theorem run_w {o : WR Mc α} {G : α × Mc → RR (β × Mc)} (h : Wk o k P) (hn : n + k ≤ 900000000) (hm : Mg n m) (hg : ∀ a m', P a → Mg (n + k) m' → ∃ b m2, G (a, m') = .ok (b, m2) ∧ Q b ∧ Mg N m2) : ∃ b m2, RR.bnd (o m) G = .ok (b, m2) ∧ Q b ∧ Mg N m2 := by
  obtain ⟨a, m1, e1, pa, h1⟩ := h n m hn hm
  obtain ⟨b, m2, e2, q⟩ := hg a m1 pa h1
  exact ⟨b, m2, by rw [e1]; exact e2, q⟩
/-- .. that ends otherwise -/
theorem run_x {τ : Type} {o : WR Mc α} {G : α × Mc → RR τ} {R : RR τ → Prop} (h : Wk o k P) (hn : n + k ≤ 900000000) (hm : Mg n m) (hg : ∀ a m', P a → Mg (n + k) m' → R (G (a, m'))) : R (RR.bnd (o m) G) := by
  obtain ⟨a, m1, e1, pa, h1⟩ := h n m hn hm
  rw [e1]
  exact hg a m1 pa h1
end
theorem begun_w {ns : List Int} {k : Nat} (hn : ns.length ≤ 63) (hk : k < 100) : ∃ m, n_l_begun ns (k : Int) = .ok m ∧ Mg 0 m := by
  obtain ⟨l, sd, cs, e, hc⟩ := begun_run (ns := ns) [] hn hk
  have hb : belows 0 [ins ns, .int (k : Nat)] = true := by
    simp only [belows, below, Bool.and_true]
    exact RF.b (e := eL eI) ns
  have q : p_l_begun [ins ns, .int (k : Nat)] = .ok (machO ⟨l, sd, cs, 0⟩) := by
    unfold p_l_begun makeF
    rw [if_pos hb, e]
    have := machO_b ⟨l, sd, cs, 0⟩
    unfold machO at this ⊢
    unfold mach
    simp only [List.nil_append, List.length_nil, List.getElem?_cons_zero]
    rw [if_pos this]
  refine ⟨⟨l, sd, cs, 0⟩, ?_, hc, Int.le_refl _, Int.le_refl _⟩
  show decR (p_l_begun [ins ns, .int (k : Nat)]) = _
  rw [q]
  unfold decR
  simp only [decM_mach]
/-- what is left, what was done -/
structure CIn (L : Lot) (lf c : List Nat) : Prop where
  ll : lf.length = L.length
  lt : ∀ k ∈ c, k < L.length
  cnt : ∀ k d, L[k]? = some d → ∃ v, lf[k]? = some v ∧ v + c.count k = d.length + 1
  sum : c.length + lf.sum = (L.map fun d => d.length + 1).sum
theorem CIn.next {L : Lot} {lf c : List Nat} {k v : Nat} (h : CIn L lf c) (e : lf[k]? = some (v + 1)) : CIn L (lf.set k v) (c ++ [k]) ∧ (lf.set k v).sum + 1 = lf.sum := by
  have hk : k < lf.length := (List.getElem?_eq_some_iff.mp e).1
  have hs := set_sum e
  refine ⟨⟨by rw [List.length_set]; exact h.ll, fun x hx => ?_, fun j d hd => ?_, ?_⟩, hs⟩
  · rcases List.mem_append.mp hx with hx | hx
    · exact h.lt x hx
    · rw [List.mem_singleton.mp hx, ← h.ll]; exact hk
  · obtain ⟨u, e1, e2⟩ := h.cnt j d hd
    by_cases hj : j = k
    · subst hj
      rw [e] at e1
      cases e1
      refine ⟨v, List.getElem?_set_self hk, ?_⟩
      rw [List.count_append, List.count_singleton_self]; omega
    · refine ⟨u, by rw [List.getElem?_set_ne (fun z => hj z.symm)]; exact e1, ?_⟩
      rw [List.count_append, List.count_singleton]
      have : (k == j) = false := by simpa using fun z : k = j => hj z.symm
      rw [this]; simpa using e2
  · have := h.sum
    rw [List.length_append, List.length_singleton]; omega
end MS
end
section
namespace MS
open PySem PySem.Spec PyProof.Rows L2 MX
mutual
/-- empty dicts, numbers and texts of some length, rows of these -/
def gd : PV → Bool
  | .non => true
  | .bl _ => true
  | .int i => Nat.blt i.natAbs.log2 900
  | .str x => PyData.strOk x
  | .tup xs => gds xs
  | .lst xs => gds xs
  | .ref _ => false
  | .adr _ _ _ => false
  | .dic ks xs => ks.isEmpty && xs.isEmpty
def gds : List PV → Bool
  | [] => true
  | x :: xs => gd x && gds xs
end
mutual
def wq : PV → Nat
  | .non => 4
  | .bl _ => 5
  | .int _ => 300
  | .str x => 10 * x.length + 2
  | .tup xs => wqs xs + 3
  | .lst xs => wqs xs + 3
  | .ref _ => 0
  | .adr _ _ _ => 0
  | .dic _ _ => 2
def wqs : List PV → Nat
  | [] => 0
  | x :: xs => wq x + 2 + wqs xs
end
mutual
def dq : PV → Nat
  | .tup xs => dqs xs + 1
  | .lst xs => dqs xs + 1
  | .dic _ _ => 1
  | _ => 0
def dqs : List PV → Nat
  | [] => 0
  | x :: xs => max (dq x) (dqs xs)
end
mutual
/-- what is shown -/
def dr : PV → PyData
  | .non => .none
  | .bl b => .bool b
  | .int i => .int i
  | .str x => .str x
  | .tup xs => .tuple (drs xs)
  | .lst xs => .list (drs xs)
  | .ref _ => .none
  | .adr _ _ _ => .none
  | .dic _ _ => .dict []
def drs : List PV → List PyData
  | [] => []
  | x :: xs => dr x :: drs xs
end
theorem int_len {i : Int} (h : i.natAbs.log2 < 900) : (Str.ofString (toString i)).length ≤ 300 := by
  have h2 : i.natAbs < 2 ^ 900 := by
    by_cases h0 : i.natAbs = 0
    · rw [h0]; exact Nat.two_pow_pos 900
    · exact (Nat.log2_lt h0).mp h
  have h3 : i.natAbs < 10 ^ 280 := Nat.lt_trans h2 (by decide +kernel)
  by_cases h0 : 0 ≤ i
  · refine Nat.le_trans (toString_length_le (k := 280) h0 (by decide) ?_) (by decide)
    have e : (i.natAbs : Int) = i := by omega
    rw [← e]
    exact_mod_cast h3
  · have h1 : i < 0 := by omega
    have h2 := len_text_negI h1
    have h4 := toString_length_le (v := 0 - i) (k := 280) (by omega) (by decide) (by
      have e : (i.natAbs : Int) = 0 - i := by omega
      rw [← e]
      exact_mod_cast h3)
    omega
mutual
theorem gd_ok : ∀ (v : PV), gd v = true → toR v = some (dr v) ∧ (dr v).showable = true ∧ (dr v).depth ≤ dq v ∧ (dr v).shown.length ≤ wq v
  | .non, _ => ⟨rfl, rfl, Nat.le_refl _, by show (Str.ofString "None").length ≤ 4; decide⟩
  | .bl b, _ => ⟨rfl, rfl, Nat.le_refl _, by cases b <;> decide⟩
  | .int i, h => by
    have h2 : Nat.blt i.natAbs.log2 900 = true := by simpa only [gd] using h
    have h' : i.natAbs.log2 < 900 := Nat.le_of_ble_eq_true h2
    refine ⟨rfl, ?_, Nat.le_refl _, Nat.le_trans (int_len h') (by simp [wq])⟩
    show decide (i.natAbs.log2 < 1920) = true
    exact decide_eq_true (by omega)
  | .str x, h => by
    have h' : PyData.strOk x = true := by simpa only [gd] using h
    refine ⟨rfl, rfl, Nat.le_refl _, ?_⟩
    have := StrLaws.reprText_len x fun c hc => by
      have := Array.all_eq_true'.mp h' c (Array.mem_toList_iff.mp hc)
      have := of_decide_eq_true this
      omega
    simpa only [wq, dr, PyData.shown] using this
  | .tup xs, h => by
    obtain ⟨h1, h2, h4, h5⟩ := gds_ok xs (by simpa only [gd] using h)
    refine ⟨by rw [toR, h1]; rfl, by simpa only [dr, PyData.showable] using h2, ?_, ?_⟩
    · simp only [dr, PyData.depth, dq]; omega
    · simp only [dr, PyData.shown, wq]
      exact Nat.le_trans (tupleText_le _) (by omega)
  | .lst xs, h => by
    obtain ⟨h1, h2, h4, h5⟩ := gds_ok xs (by simpa only [gd] using h)
    refine ⟨by rw [toR, h1]; rfl, by simpa only [dr, PyData.showable] using h2, ?_, ?_⟩
    · simp only [dr, PyData.depth, dq]; omega
    · simp only [dr, PyData.shown, wq]
      exact Nat.le_trans (listText_le _) (by omega)
  | .dic ks xs, h => by
    have h' : ks = [] ∧ xs = [] := by simpa [gd] using h
    rw [h'.1, h'.2]
    exact ⟨rfl, rfl, by decide, by decide⟩
  | .ref _, h => by simp [gd] at h
  | .adr _ _ _, h => by simp [gd] at h
theorem gds_ok : ∀ (xs : List PV), gds xs = true → toRs xs = some (drs xs) ∧ PyData.showableAll (drs xs) = true ∧ PyData.depthAll (drs xs) ≤ dqs xs ∧ PySem.piled (PyData.shownAll (drs xs)) ≤ wqs xs
  | [], _ => ⟨rfl, rfl, Nat.le_refl _, Nat.le_refl _⟩
  | x :: xs, h => by
    have h' : gd x = true ∧ gds xs = true := by simpa only [gds, Bool.and_eq_true] using h
    obtain ⟨a1, a2, a4, a5⟩ := gd_ok x h'.1
    obtain ⟨b1, b2, b4, b5⟩ := gds_ok xs h'.2
    refine ⟨by rw [toRs, a1, b1]; rfl, by simp only [drs, PyData.showableAll, a2, b2]; rfl, ?_, ?_⟩
    · simp only [drs, PyData.depthAll, dqs]; omega
    · simp only [drs, PyData.shownAll, PySem.piled_cons, wqs]; omega
end
/-- good data of some depth and weight -/
structure GD (v : PV) (d w : Nat) : Prop where
  g : gd v = true
  d : dq v ≤ d
  w : wq v ≤ w
theorem GD.mono {v : PV} {d w d' w' : Nat} (h : GD v d w) (hd : d ≤ d') (hw : w ≤ w') : GD v d' w' := ⟨h.g, Nat.le_trans h.d hd, Nat.le_trans h.w hw⟩
theorem repr_gd {v : PV} {d w : Nat} (h : GD v d w) (hd : d ≤ 64) (hw : w ≤ 1000000) : ∃ r, reprP v = .ok r := by
  obtain ⟨a1, a2, a3, a4⟩ := gd_ok v h.g
  have hn : ∀ n, v ≠ .ref n := fun n e => by have := h.g; rw [e] at this; simp [gd] at this
  have e : rOf [] v = some (dr v) := by
    cases v with
    | ref n => exact absurd rfl (hn n)
    | _ => exact a1
  have hz : (dr v).showable = true ∧ (dr v).depth ≤ 64 ∧ (dr v).shown.length ≤ sizeLine := ⟨a2, by have := h.d; omega, Nat.le_trans a4 (Nat.le_trans h.w (Nat.le_trans hw (by decide)))⟩
  have q : vRepr [v] [] = some (.str (dr v).shown, []) := by
    unfold vRepr
    simp only [e]
    exact if_pos hz
  refine ⟨(dr v).shown, ?_⟩
  unfold reprP
  cases v with
  | ref n => exact absurd rfl (hn n)
  | _ => simp only [q]
theorem gds_mem {xs : List PV} : gds xs = true ↔ ∀ x ∈ xs, gd x = true := by
  induction xs with
  | nil => simp [gds]
  | cons x xs ih => simp [gds, ih]
theorem wqs_le {xs : List PV} {w n : Nat} (h : ∀ x ∈ xs, wq x ≤ w) (hn : xs.length ≤ n) : wqs xs ≤ n * (w + 2) := by
  induction xs generalizing n with
  | nil => exact Nat.zero_le _
  | cons x xs ih =>
    cases n with
    | zero => simp at hn
    | succ n =>
      have h1 := ih (n := n) (fun y hy => h y (.tail _ hy)) (by simpa using hn)
      have h2 := h x (.head _)
      simp only [wqs, Nat.succ_mul]; omega
theorem dqs_le {xs : List PV} {d : Nat} (h : ∀ x ∈ xs, dq x ≤ d) : dqs xs ≤ d := by
  induction xs with
  | nil => exact Nat.zero_le _
  | cons x xs ih =>
    have h1 := ih fun y hy => h y (.tail _ hy)
    have h2 := h x (.head _)
    simp only [dqs]; omega
theorem gd_row {xs : List PV} {d w n : Nat} (h : ∀ x ∈ xs, GD x d w) (hn : xs.length ≤ n) : GD (.tup xs) (d + 1) (n * (w + 2) + 3) ∧ GD (.lst xs) (d + 1) (n * (w + 2) + 3) := by
  have h1 : gds xs = true := gds_mem.mpr fun x hx => (h x hx).g
  have h2 := dqs_le fun x hx => (h x hx).d
  have h3 := wqs_le (fun x hx => (h x hx).w) hn
  exact ⟨⟨by simpa only [gd] using h1, by simp only [dq]; omega, by simp only [wq]; omega⟩, ⟨by simpa only [gd] using h1, by simp only [dq]; omega, by simp only [wq]; omega⟩⟩
theorem gd_of {v : PV} {d w : Nat} (h : SD v d w) : GD v (d + 1) (20 * w + 400) := by
  have key : ∀ n, (∀ v : PV, dp v ≤ n → sm v = true → gd v = true ∧ dq v = dp v ∧ wq v ≤ 16 * wt v) := by
    intro n
    induction n with
    | zero =>
      intro v hv hs
      cases v with
      | int i =>
        have h' : i.natAbs < 10 ^ 18 := of_decide_eq_true (by simpa only [sm] using hs)
        refine ⟨?_, rfl, by simp [wq, wt]⟩
        show Nat.ble (i.natAbs.log2 + 1) 900 = true
        rw [Nat.ble_eq]
        by_cases h0 : i.natAbs = 0
        · rw [h0]; decide
        · have : i.natAbs.log2 < 60 := (Nat.log2_lt h0).mpr (Nat.lt_of_lt_of_le h' (by decide))
          omega
      | str x => exact ⟨by simpa [sm, gd] using hs, rfl, by simp only [wq, wt]; omega⟩
      | tup xs => simp [dp] at hv
      | lst xs => simp [dp] at hv
      | ref n => simp [sm] at hs
      | adr _ _ _ => simp [sm] at hs
      | dic _ _ => simp [sm] at hs
      | _ => exact ⟨rfl, rfl, by simp [wq, wt]⟩
    | succ n ih =>
      have rows : ∀ xs : List PV, dps xs ≤ n → sms xs = true → gds xs = true ∧ dqs xs = dps xs ∧ wqs xs ≤ 16 * wts xs := by
        intro xs
        induction xs with
        | nil => intro _ _; exact ⟨rfl, rfl, Nat.le_refl _⟩
        | cons x xs ih2 =>
          intro h1 h2
          simp only [dps] at h1
          simp only [sms, Bool.and_eq_true] at h2
          obtain ⟨a, b, c⟩ := ih x (by omega) h2.1
          obtain ⟨a', b', c'⟩ := ih2 (by omega) h2.2
          exact ⟨by simp only [gds, a, a']; rfl, by simp only [dqs, dps, b, b'], by simp only [wqs, wts]; omega⟩
      intro v hv hs
      cases v with
      | tup xs =>
        simp only [dp] at hv
        obtain ⟨a, b, c⟩ := rows xs (by omega) (by simpa only [sm] using hs)
        exact ⟨by simpa only [gd] using a, by simp only [dq, dp, b], by simp only [wq, wt]; omega⟩
      | lst xs =>
        simp only [dp] at hv
        obtain ⟨a, b, c⟩ := rows xs (by omega) (by simpa only [sm] using hs)
        exact ⟨by simpa only [gd] using a, by simp only [dq, dp, b], by simp only [wq, wt]; omega⟩
      | _ => exact ih _ (by simp [dp]) hs
  obtain ⟨a, b, c⟩ := key (dp v) v (Nat.le_refl _) h.s
  have h1 := h.d
  have h2 := h.w
  exact ⟨a, by omega, by omega⟩
theorem qv_ext {a b : QV} (h : a.1 = b.1) : a = b := Subtype.ext h
theorem qT_val (l : List QV) : (qT l).1 = .tup (l.map eQ) := rfl
theorem qT_of {xs : List PV} (h : below 0 (.tup xs) = true) : (⟨.tup xs, h⟩ : QV) = qT (qs xs (below_tup h)) := qv_ext (by rw [qT_val, qs_map])
end MS
end
section
namespace MS
open PySem PySem.Spec PyProof.Rows L2 MX
theorem gd_parts {l : List QV} (h : gd (qT l).1 = true) : ∀ u ∈ l, gd u.1 = true := fun u hu => by
  have h2 : gds (l.map eQ) = true := by simpa only [qT_val, gd] using h
  exact gds_mem.mp h2 _ (List.mem_map.mpr ⟨u, hu, rfl⟩)
theorem tupQ_T (l : List QV) : tupQ (qT l) = some l := by
  show some (qs (l.map eQ) _) = _
  rw [qs_of]
theorem tup_or (v : QV) (hg : gd v.1 = true) : (∃ l, v = qT l) ∨ (tupQ v = none ∧ instQ "tuple" v = .ok false) := by
  obtain ⟨x, hx⟩ := v
  cases x with
  | tup xs => exact .inl ⟨_, qT_of hx⟩
  | ref n => simp [gd] at hg
  | adr a xs vs => simp [gd] at hg
  | _ => exact .inr ⟨rfl, rfl⟩
theorem repr_few {α : Type} {e : α → PV} {l : List α} (h : ∀ a ∈ l, GD (e a) 20 200000) (hl : l.length ≤ 3) : ∃ r, reprR (eL e) l = .ok r := by
  have g := (gd_row (xs := l.map e) (d := 20) (w := 200000) (n := 3) (fun x hx => by
    obtain ⟨a, ha, rfl⟩ := List.mem_map.mp hx
    exact h a ha) (by rw [List.length_map]; exact hl)).2
  exact repr_gd (v := .lst (l.map e)) g (by decide) (by decide)
/-- good rows -/
structure GL (l : List QV) (d w : Nat) : Prop where
  g : gds (l.map eQ) = true
  d : dqs (l.map eQ) ≤ d
  w : wqs (l.map eQ) ≤ w
theorem gds_app : ∀ a b : List PV, gds (a ++ b) = (gds a && gds b)
  | [], b => by simp [gds]
  | x :: a, b => by simp [gds, gds_app a b, Bool.and_assoc]
theorem wqs_app : ∀ a b : List PV, wqs (a ++ b) = wqs a + wqs b
  | [], b => by simp [wqs]
  | x :: a, b => by simp only [List.cons_append, wqs, wqs_app a b]; omega
theorem dqs_app : ∀ a b : List PV, dqs (a ++ b) = max (dqs a) (dqs b)
  | [], b => by simp [dqs]
  | x :: a, b => by simp only [List.cons_append, dqs, dqs_app a b]; omega
theorem GL.parts {a b : List QV} {d w : Nat} (h : GL (a ++ b) d w) : GL a d w ∧ GL b d w := by
  have h1 := h.g
  have h2 := h.d
  have h3 := h.w
  rw [List.map_append, gds_app, Bool.and_eq_true] at h1
  rw [List.map_append, dqs_app] at h2
  rw [List.map_append, wqs_app] at h3
  exact ⟨⟨h1.1, by omega, by omega⟩, ⟨h1.2, by omega, by omega⟩⟩
theorem GL.take {l : List QV} {d w : Nat} (h : GL l d w) (j : Nat) : GL (l.take j) d w := (GL.parts (a := l.take j) (b := l.drop j) (by rw [List.take_append_drop]; exact h)).1
theorem GL.drop {l : List QV} {d w : Nat} (h : GL l d w) (j : Nat) : GL (l.drop j) d w := (GL.parts (a := l.take j) (b := l.drop j) (by rw [List.take_append_drop]; exact h)).2
theorem GL.one {u : QV} {d w : Nat} (h : GD u.1 d w) : GL [u] d (w + 2) := by
  refine ⟨by simp only [List.map_cons, List.map_nil, gds, eQ, h.g]; rfl, ?_, ?_⟩
  · have := h.d; simp only [List.map_cons, List.map_nil, dqs, eQ]; omega
  · have := h.w; simp only [List.map_cons, List.map_nil, wqs, eQ]; omega
theorem GL.mem : ∀ {l : List QV} {d w : Nat}, GL l d w → ∀ u ∈ l, GD u.1 d w
  | [], _, _, _, u, hu => by cases hu
  | x :: l, d, w, h, u, hu => by
    have h1 := h.g
    have h2 := h.d
    have h3 := h.w
    simp only [List.map_cons, gds, dqs, wqs, Bool.and_eq_true, eQ] at h1 h2 h3
    rcases List.mem_cons.mp hu with rfl | hu
    · exact ⟨h1.1, by omega, by omega⟩
    · exact GL.mem (d := d) (w := w) ⟨h1.2, by omega, by omega⟩ u hu
theorem GL.tup {l : List QV} {d w : Nat} (h : GL l d w) : GD (qT l).1 (d + 1) (w + 3) ∧ GD (qL l).1 (d + 1) (w + 3) := by
  have h1 := h.g
  have h2 := h.d
  have h3 := h.w
  exact ⟨⟨by simpa only [qT_val, gd] using h1, by simp only [qT_val, dq]; omega, by simp only [qT_val, wq]; omega⟩, ⟨by show gd (.lst (l.map eQ)) = true; simpa only [gd] using h1, by show dq (.lst (l.map eQ)) ≤ _; simp only [dq]; omega, by show wq (.lst (l.map eQ)) ≤ _; simp only [wq]; omega⟩⟩
theorem GL.of {l : List QV} {d w : Nat} (h : GD (qT l).1 (d + 1) w) : GL l d w := by
  have h1 := h.g
  have h2 := h.d
  have h3 := h.w
  simp only [qT_val, gd, dq, wq] at h1 h2 h3
  exact ⟨h1, by omega, by omega⟩
end MS
end
section
namespace MZ
open PySem PySem.Spec PyProof.Rows L2 MX MS
def w_abcdefghijklmnopqrstuvwxyz : W := ⟨"abcdefghijklmnopqrstuvwxyz", by decide +kernel⟩
def signs (x : Str) : List QV := x.cps.toList.map fun c => (⟨.str ⟨#[c]⟩, rfl⟩ : QV)
def chB (u : QV) : Bool := match op2B vIn u (qV eS w_abcdefghijklmnopqrstuvwxyz) with
  | .ok b => b
  | _ => false
def th (x : Str) : Bool := (decide ((1 : Int) ≤ (x.length : Int)) && decide ((x.length : Int) ≤ 3)) && (signs x).all chB
def thU (u : QV) : Bool := match u.1 with
  | .str x => th x
  | _ => false
def lmB (u : QV) : Bool := match u.1 with
  | .str x => decide (x ∈ [w_look, w_mark].map (·.1))
  | _ => false
def stB (v : QV) : Bool := match tupQ v with
  | some [x, y] => lmB x && thU y
  | _ => false
theorem len_w {l : List QV} {u : QV} (h : u ∈ l) : wq u.1 ≤ wq (qT l).1 := by
  induction l with
  | nil => cases h
  | cons x l ih =>
    simp only [qT_val, wq, List.map_cons, wqs] at ih ⊢
    rcases List.mem_cons.mp h with rfl | h
    · simp only [eQ]; omega
    · have := ih h; omega
end MZ
end
section
namespace MZ
open PySem PySem.Spec PyProof.Rows L2 MX MS
abbrev stQ (s : W × W) : QV := qV (eT2 eS eS) s
def toS (u : QV) : Option (W × W) := if stB u = true then (match u.1 with
  | .tup [.str a, .str b] => if h : PyData.strOk a = true ∧ PyData.strOk b = true then some (⟨a, h.1⟩, ⟨b, h.2⟩) else none
  | _ => none) else none
theorem toS_none {u : QV} (h : stB u = false) : toS u = none := by unfold toS; rw [h]; rfl
theorem toS_some {u : QV} (hg : gd u.1 = true) (h : stB u = true) : ∃ s, toS u = some s ∧ u = stQ s ∧ (s.1 = w_look ∨ s.1 = w_mark) := by
  have h0 := h
  unfold stB at h
  rcases tup_or u hg with ⟨l, rfl⟩ | ⟨h1, h2⟩
  · rw [tupQ_T] at h
    have hp := gd_parts hg
    match l, hp, h, h0 with
    | [x, y], hp, h, h0 =>
      have h : (lmB x && thU y) = true := h
      rw [Bool.and_eq_true] at h
      have gx := hp x (by simp)
      have gy := hp y (by simp)
      obtain ⟨x, hx⟩ := x
      obtain ⟨y, hy⟩ := y
      cases x with
      | str a => cases y with
        | str b =>
          have ga : PyData.strOk a = true := by simpa only [gd] using gx
          have gb : PyData.strOk b = true := by simpa only [gd] using gy
          refine ⟨(⟨a, ga⟩, ⟨b, gb⟩), ?_, rfl, ?_⟩
          · unfold toS
            rw [if_pos h0]
            show (if h : PyData.strOk a = true ∧ PyData.strOk b = true then some ((⟨a, h.1⟩, ⟨b, h.2⟩) : W × W) else none) = _
            rw [dif_pos ⟨ga, gb⟩]
          · have q := h.1
            have q : a ∈ [w_look, w_mark].map (·.1) := of_decide_eq_true q
            obtain ⟨w, q1, q2⟩ := List.mem_map.mp q
            have e : w = ⟨a, ga⟩ := Subtype.ext q2
            have q1 : w = w_look ∨ w = w_mark := by simpa using q1
            rw [e] at q1
            exact q1
        | _ =>
          have z : false = true := h.2
          cases z
      | _ =>
        have z : false = true := h.1
        cases z
  · rw [h1] at h; cases h
def fol (pre : List (W × W)) (s : W × W) : Bool := !decide (s ∈ pre) && (decide (s.1 = w_mark) || !decide ((w_mark, s.2) ∈ pre))
def wrI : List QV → List (W × W) → Nat → Option Nat
  | [], _, _ => none
  | u :: r, pre, i => match toS u with
    | some s => if fol pre s = true then wrI r (pre ++ [s]) (i + 1) else some i
    | none => some i
theorem walk {ρ : Type} {st : Int × QV → Unit → RR (Rz Unit ρ)} {g : Int → ρ} {l : List QV} (h : ∀ (pre : List (W × W)) (u : QV) (r : List QV), l = pre.map stQ ++ u :: r → st ((pre.length : Int), u) () = .ok (match toS u with
    | some s => if fol pre s = true then .nx () else .rt (g pre.length)
    | none => .rt (g pre.length))) (hg : ∀ u ∈ l, gd u.1 = true) : ∀ (r : List QV) (pre : List (W × W)), l = pre.map stQ ++ r → forR st (enumN pre.length r) () = .ok (match wrI r pre pre.length with
    | some j => .rt (g j)
    | none => .nx ())
  | [], pre, _ => rfl
  | u :: r, pre, e => by
    have e1 : enumN pre.length (u :: r) = ((pre.length : Int), u) :: enumN (pre.length + 1) r := rfl
    rw [e1]
    unfold forR wrI
    rw [h pre u r e]
    cases q : toS u with
    | none => rfl
    | some s =>
      dsimp only
      by_cases hf : fol pre s = true
      · rw [if_pos hf, if_pos hf]
        have hgu := hg u (by rw [e]; simp)
        have hs : stB u = true := by
          cases z : stB u with
          | true => rfl
          | false => rw [toS_none z] at q; cases q
        obtain ⟨s', q1, q2, _⟩ := toS_some hgu hs
        rw [q] at q1
        cases q1
        have := walk h hg r (pre ++ [s]) (by rw [e, q2]; simp)
        rw [List.length_append, List.length_singleton] at this
        exact this
      · rw [if_neg hf, if_neg hf]
theorem parts {l : List QV} (hg : gd (qT l).1 = true) (hw : wq (qT l).1 ≤ 100000) : ∀ u ∈ l, gd u.1 = true ∧ wq u.1 ≤ 100000 := fun u hu => ⟨gd_parts hg u hu, Nat.le_trans (len_w hu) hw⟩
end MZ
end
section
namespace MZ
open PySem PySem.Spec PyProof.Rows L2 MX MS
def lvB (u : QV) : Bool := match u.1 with
  | .str x => decide (x ∈ lvls.map (·.1))
  | _ => false
def tB (n : Nat) (v : QV) : Bool := match tupQ v with
  | some l => decide (l.length = n) && l.all lvB
  | none => false
theorem sd_lo {L : Lot} (h : LoOk L) : SD (loP L) 3 5000 :=
  (sd_v (fun d hd => sd_v (fun s hs => sd_t2 (w := 72) (sd_s (n := 7) (by
    obtain ⟨w1, w2⟩ := (h.de d hd).1.w s hs
    rcases w2 with e | e <;> rw [e] <;> decide +kernel)) (sd_s (n := 7) (thing_ok ((h.de d hd).1.w s hs).1).2)) (h.de d hd).2.2) h.n5).mono (by decide) (by decide)
theorem gd_lo {L : Lot} (h : LoOk L) : GD (qV (eV (eV (eT2 eS eS))) L).1 8 100400 := (gd_of (sd_lo h)).mono (by decide) (by decide)
theorem kept {L : Lot} (hL : LoOk L) {v : QV} (hv : GD v.1 8 100000) : ∃ r, reprR (eL eQ) [(qV (eV (eV (eT2 eS eS))) L), v] = .ok r :=
  repr_few (e := eQ) (fun a ha => by
    rcases List.mem_cons.mp ha with rfl | ha
    · exact (gd_lo hL).mono (by decide) (by decide)
    · rw [List.mem_singleton.mp ha]; exact hv.mono (by decide) (by decide)) (by simp)
end MZ
end
section
namespace MS
open PySem PySem.Spec PyProof.Rows L2 MX
end MS
end
section
namespace MZ
open PySem PySem.Spec PyProof.Rows L2 MX MS
section
variable {L : Lot} {c : List Int}
end
end MZ
end
section
namespace K25
open PySem PySem.Spec PyProof.Rows L2 MX MS
def rpB (u : QV) : Bool := match reprR eQ u with
  | .ok r => PyData.strOk r
  | _ => false
def okB {α : Type} (o : RR α) (p : α → Bool) : Bool := match o with
  | .ok a => p a
  | _ => false
section
variable {α β : Type} {o : RR α} {f : α → RR (β × Mc)} {p : α → Bool} {Q : β → Prop} {n : Nat}
theorem bxd (h : okB o p = true) (hf : ∀ a, p a = true → ∃ b m', f a = .ok (b, m') ∧ Q b ∧ Mg n m') : ∃ b m', RR.bnd o f = .ok (b, m') ∧ Q b ∧ Mg n m' := by
  cases o with
  | ok a => exact hf a h
  | exc x => cases h
  | stuck => cases h
end
theorem int_rp : (List.range 99).all (fun i => rpB (qV eI (i : Int))) = true := by decide +kernel
theorem int_rp2 : (List.range 9).all (fun i => rpB (qV (eT2 eI eS) ((i : Int), w_x)) && rpB (qV (eL eI) [(i : Int)])) = true := by decide +kernel
theorem things_w : Wk n_l_things 12 (fun l => ∀ u ∈ l, rpB u = true) := by
  unfold n_l_things
  refine wk_nox fun n m hn hm => ?_
  refine bxd (p := fun l => l.all rpB && Nat.beq l.length 17) (by decide +kernel) fun v1 h1 => ?_
  simp only [Bool.and_eq_true, Nat.beq_eq, List.all_eq_true] at h1
  obtain ⟨v17, e17, h17, l17⟩ : ∃ l, RR.bnd (RR.bnd (RR.bnd (if CPow (10 : Int) (30 : Int) then RR.ok ((10 : Int) ^ Int.toNat (30 : Int)) else .stuck) fun v2 => .ok (qV eI v2)) fun v13 => RR.bnd (RR.bnd (.ok (qV (eT3 eI eI (eV eI)) ((0 : Int), (1 : Int), [(1 : Int)]))) fun v11 => RR.bnd (RR.bnd (.ok (qV (eT2 eS eS) (w_look, w_a))) fun v9 => RR.bnd (RR.bnd (.ok (qV (eL (eT3 eI eI eN)) [((0 : Int), (0 : Int), ())])) fun v7 => RR.bnd (RR.bnd (.ok (qV eS w_closed)) fun v5 => RR.bnd (RR.bnd (.ok (qV (eT2 eN eN) ((), ()))) fun v3 => RR.bnd (.ok []) fun v4 => .ok (v3 :: v4)) fun v6 => .ok (v5 :: v6)) fun v8 => .ok (v7 :: v8)) fun v10 => .ok (v9 :: v10)) fun v12 => .ok (v11 :: v12)) fun v14 => .ok (v13 :: v14)) fitR = .ok l ∧ (∀ u ∈ l, rpB u = true) ∧ l.length = 6 := by
    refine ⟨_, rfl, ?_, rfl⟩
    exact fun u hu => List.all_eq_true.mp (show List.all _ rpB = true by decide +kernel) u hu
  rw [e17]
  simp only [RR.bnd_ok]
  rw [fitR_ok (by rw [List.length_append, h1.2, l17]; decide)]
  simp only [RR.bnd_ok]
  have hall : ∀ u ∈ v1 ++ v17, rpB u = true := fun u hu => by
    rcases List.mem_append.mp hu with hu | hu
    · exact h1.1 u hu
    · exact h17 u hu
  have hlen : (v1 ++ v17).length = 23 := by rw [List.length_append, h1.2, l17]
  have hd : ∀ d : Int, 0 ≤ d ∧ d < 99 → rpB (qV eI d) = true := fun d h => by
    have q := List.all_eq_true.mp int_rp d.toNat (List.mem_range.mpr (by omega))
    rwa [show ((d.toNat : Nat) : Int) = d by omega] at q
  have hd2 : ∀ d : Int, 0 ≤ d ∧ d < 9 → rpB (qV (eT2 eI eS) (d, w_x)) = true ∧ rpB (qV (eL eI) [d]) = true := fun d h => by
    have q := List.all_eq_true.mp int_rp2 d.toNat (List.mem_range.mpr (by omega))
    rw [show ((d.toNat : Nat) : Int) = d by omega] at q
    exact Bool.and_eq_true_iff.mp q
  refine run_w (k := 11) (P := fun l : List QV => ∀ u ∈ l, rpB u = true) ?_ (by omega) hm fun l m' hl hm' => ⟨l, m', rfl, hl, hm'.mono (by omega)⟩
  refine wk_bnd (k := 8) (j := 3) (P := fun l : List QV => (∀ u ∈ l, rpB u = true) ∧ l.length = 8) ?_ fun v36 h36 => ?_
  · refine wk_bnd (k := 0) (j := 8) (P := fun l : List Int => l.length = 8) (wk_of (rng1_ok (n := 8) (by decide)) (by decide)) fun v19 h19 => ?_
    refine wk_bnd (k := 8) (j := 0) (P := fun l : List QV => (∀ u ∈ l, rpB u = true) ∧ l.length = 8) ?_ fun v20 h20 => wk_of (fitR_ok (by rw [h20.2]; decide)) h20
    have q := lcW_w (k := 1) (R := fun (_ : Int) (u : QV) => u ∈ v1 ++ v17) v19 (fun x _ => ofL_w (l := v1 ++ v17) (by omega) (by omega))
    rw [h19] at q
    exact wk_mono q (Nat.le_refl _) fun l h => ⟨fun u hu => by
      obtain ⟨x, _, hx⟩ := h.2 u hu
      exact hall u hx, h.1⟩
  · refine wk_bnd (k := 3) (j := 0) (P := fun l : List QV => (∀ u ∈ l, rpB u = true) ∧ l.length = 3) ?_ fun v37 h37 => wk_of (fitR_ok (by rw [List.length_append, h36.2, h37.2]; decide)) fun u hu => by
      rcases List.mem_append.mp hu with hu | hu
      · exact h36.1 u hu
      · exact h37.1 u hu
    refine wk_bnd (k := 3) (j := 0) (P := fun l : List QV => (∀ u ∈ l, rpB u = true) ∧ l.length = 3) ?_ fun v35 h35 => wk_of (fitR_ok (by rw [h35.2]; decide)) h35
    refine wk_bnd (k := 1) (j := 2) (P := fun u : QV => rpB u = true) (wk_bnd (k := 1) (j := 0) (draw_w (by decide) (by decide)) fun d h => wk_ok (hd d h)) fun v33 h33 => ?_
    refine wk_bnd (k := 2) (j := 0) (P := fun l : List QV => (∀ u ∈ l, rpB u = true) ∧ l.length = 2) ?_ fun v34 h34 => wk_ok ⟨fun u hu => by
      rcases List.mem_cons.mp hu with rfl | hu
      · exact h33
      · exact h34.1 u hu, by rw [List.length_cons, h34.2]⟩
    refine wk_bnd (k := 1) (j := 1) (P := fun u : QV => rpB u = true) (wk_bnd (k := 1) (j := 0) (P := fun p : Int × W => (0 ≤ p.1 ∧ p.1 < 9) ∧ p.2 = w_x) (wk_bnd (k := 1) (j := 0) (draw_w (by decide) (by decide)) fun d h => wk_bnd (k := 0) (j := 0) (P := fun w => w = w_x) (wk_ok rfl) fun w hw => wk_ok ⟨h, hw⟩) fun p h => wk_ok (by
      obtain ⟨a, b⟩ := p
      obtain rfl : b = w_x := h.2
      exact (hd2 a h.1).1)) fun v31 h31 => ?_
    refine wk_bnd (k := 1) (j := 0) (P := fun l : List QV => (∀ u ∈ l, rpB u = true) ∧ l.length = 1) ?_ fun v32 h32 => wk_ok ⟨fun u hu => by
      rcases List.mem_cons.mp hu with rfl | hu
      · exact h31
      · exact h32.1 u hu, by rw [List.length_cons, h32.2]⟩
    refine wk_bnd (k := 1) (j := 0) (P := fun u : QV => rpB u = true) (wk_bnd (k := 1) (j := 0) (P := fun l : List Int => ∃ d : Int, (0 ≤ d ∧ d < 9) ∧ l = [d]) (wk_bnd (k := 1) (j := 0) (P := fun l : List Int => ∃ d : Int, (0 ≤ d ∧ d < 9) ∧ l = [d]) (wk_bnd (k := 1) (j := 0) (draw_w (by decide) (by decide)) fun d h => wk_bnd (k := 0) (j := 0) (P := fun l : List Int => l = []) (wk_ok rfl) fun l hl => wk_ok ⟨d, h, by rw [hl]⟩) fun l h => by
      obtain ⟨d, hd', rfl⟩ := h
      exact wk_of (fitR_ok (by show 1 ≤ 16777216; decide)) ⟨d, hd', rfl⟩) fun l h => wk_ok (by
      obtain ⟨d, hd', rfl⟩ := h
      exact (hd2 d hd').2)) fun v29 h29 => ?_
    exact wk_bnd (k := 0) (j := 0) (P := fun l : List QV => l = []) (wk_ok rfl) fun l hl => wk_ok (by
      subst hl
      exact ⟨fun u hu => by rw [List.mem_singleton.mp hu]; exact h29, rfl⟩)
theorem forK_nx {σ ρ τ : Type} {f : σ → RR τ} {g : ρ → τ} {s : σ} : forK f g (.nx s) = f s := rfl
theorem law_ok (ns : List Int) (hn : ns.length ≤ 63) : n_law ns = .ok true := by
  obtain ⟨t, ht, e⟩ : ∃ t : Nat, t ≤ 8 ∧ rng1R ((2 : Int) + (if (6 : Int) < (ns.length : Int) then (6 : Int) else (ns.length : Int))) = .ok ((List.range t).map fun i : Nat => (i : Int)) := by
    by_cases h : (6 : Int) < (ns.length : Int)
    · rw [if_pos h]; exact ⟨8, by decide, rng1_ok (n := 8) (by decide)⟩
    · rw [if_neg h]
      refine ⟨2 + ns.length, by omega, ?_⟩
      rw [← rng1_ok (n := 2 + ns.length) (by omega)]
      congr 1
  unfold n_law
  rw [e, RR.bnd_ok, forR_none _ ?_, RR.bnd_ok, forK_nx]
  · rfl
  intro x hx
  obtain ⟨k, hk, rfl⟩ := List.mem_map.mp hx
  have hk := List.mem_range.mp hk
  obtain ⟨m, e, hm⟩ := begun_w (ns := ns) (k := k) hn (by omega)
  rw [e, RR.bnd_ok]
  refine run_x (R := fun o : RR (Rz Unit Bool) => o = .ok (.nx ())) (k := 12) (P := fun l : List QV => ∀ u ∈ l, rpB u = true) things_w (by decide) hm fun L m1 hL h1 => ?_
  dsimp only
  rw [forR_none L fun u hu => ?_, RR.bnd_ok, forK_nx]
  have q := hL u hu
  unfold rpB at q
  unfold n_l_made_right n_l_same
  cases h : reprR eQ u with
  | stuck => rw [h] at q; cases q
  | exc x => rw [h] at q; cases q
  | ok r =>
    rw [h] at q
    have q : PyData.strOk r = true := q
    dsimp only
    rw [if_pos q]
    rfl
theorem law_pure (ns : List Int) (hn : ns.length ≤ 63) : ∃ S', m_law [.lst (ns.map PV.int)] [] = .ok (.bl true) S' := by
  have x := x_law ns
  rw [law_ok ns hn] at x
  rcases (show JF MX.eB true (t_law (startP 7 [eL eI ns]) []) from x) with ⟨S2, e⟩ | ⟨sp2, S2, e, z⟩
  · refine ⟨S2, ?_⟩
    unfold m_law bodyF
    rw [show startP 7 [PV.lst (ns.map PV.int)] = startP 7 [eL eI ns] from rfl, e]
    rfl
  · cases z
end K25
end
section
set_option maxHeartbeats 0
open PySem PySem.W PySem.Calls PyProof.Rows
theorem PySem.Challenge.cw_mixedlevels_k25_exceptions_holds : PySem.Challenge.rw_mixedlevels_k25_exceptions.Holds := by
  w_on; o_law
  refine HandSHeadRun.head_any (r := OpenLaw.row PySem.Challenge.rw_mixedlevels_k25_exceptions) (q := view (OpenLaw.row PySem.Challenge.rw_mixedlevels_k25_exceptions).prog [22]) (H := K25.hk) (ob := K25.ob) (M := 4000) (loose := K25.loose) (d := HandSHeadRun.topDef (OpenLaw.row PySem.Challenge.rw_mixedlevels_k25_exceptions).prog 22) (kwd := []) K25.ob_eq
    (by kernel_rfl) (fun s => by kernel_rfl) K25.run (by kernel_rfl) (by kernel_rfl) (by kernel_rfl) (by rfl) (by first | assumption | decide +kernel) (by decide +kernel) ⟨rfl, rfl, rfl, rfl, rfl, by decide +kernel⟩ ?hw ?hc
  case hw => w_witness2
  case hc =>
    refine MX.law_walk (l := PySem.Challenge.rw_mixedlevels_k25_exceptions) (n := 63) (k := 4) (x := "_law_script") rfl (by decide) (by kernel_rfl) ⟨rfl, by decide, by decide⟩ ?F
    intro w mg fa h Y G hmg0
    obtain ⟨K, KX, cx⟩ := Y
    have hmg : mg ("law" : PySem.Str) = some (.ref fa) := by
      have e : (HandSHeadRun.topDef (OpenLaw.row PySem.Challenge.rw_mixedlevels_k25_exceptions).prog 22).name = ("law" : PySem.Str) := by kernel_rfl
      rw [← e]
      exact hmg0
    have c := cx.m
    have e := hmg.symm.trans (He.glo_ok KX G (c.d.fact 23 rfl))
    cases e
    exact ⟨K, _, K25.m_law, KX, c.emp, c.out, fun s u => L2.FunD.bindsA (ps := ["_law_script"]) ((c.d.def_ 10 (d := K25.dd10) rfl).elim fun fd F => MX.FunD.toOf F) (fun _ _ _ _ _ _ us hl => match us, hl with | [_], _ => rfl) s [u] rfl, K25.law_pure, fun base _ _ TB => K25.ok_law (K25.txt KX G cx TB)⟩
end
