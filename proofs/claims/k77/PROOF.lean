import PyProof.Rows.All
import Wide.All
import OpenK.AllK
import Wide.FinOn
import HandS.ForMost
import HandS.ForExc
import HandS.Deep
import HandS.AnyAll
import HandS.EndTab
import HandS.Style
import HandS.TupAny
import HandS.TupMul
import HandS.IsInst
import HandS.TupLe
import HandS.Strs
import HandS.Small
import HandS.Conv
import HandS.Flow
import HandS.More
import HandS.NoneIn
import HandS.TryOnly
import HandS.DictComp
import HandS.Defaults
import HandS.GenList
import PyProof.TupleOfGen
import PyProof.ConsumeS
import HandS.Zip
import PyProof.SliceList
import KE.KRevSl
import KE.GoesMore
import KE.GoesNew
import KE.KTupSum
import PyProof.SumAny
import HandS.SortInts
import PyProof.MaxThree
import KE.DataAny
import PySem.Challenge.RW_sendround_k77_sets_under_trees
set_option Elab.async false
set_option linter.all false
set_option maxRecDepth 100000
/-! Z1: deep values over the abstract heap, a store of lists that are changed, judgements by plain functions. -/
namespace Z
open PySem PySem.Spec PyProof.Rows L2

/-- a value: data by worth, the n-th changing thing of the store, or the law's own list -/
inductive EV where
  | d (x : PyData)
  | own (n : Nat)
  | scr (xs : List PyData)
/-- an exception: its class, its fields -/
structure Exn where
  cls : Addr
  fs : List (Str × PyData)
inductive SO where
  | lst (xs : List EV)
  | dct (kvs : List (Key × EV))
  | dtp (w : World) (kvs : List (List Key × EV))
  | gone
abbrev Store := List SO
inductive Res (α : Type) where
  | bad
  | ok (a : α) (S : Store)
  | exc (x : Exn) (S : Store)
def Res.bind {α β : Type} (r : Res α) (k : α → Store → Res β) : Res β := match r with
  | .bad => .bad
  | .ok a S => k a S
  | .exc x S => .exc x S
@[simp] theorem Res.bind_bad {α β : Type} (k : α → Store → Res β) : (Res.bad : Res α).bind k = .bad := (rfl)
@[simp] theorem Res.bind_ok {α β : Type} (a : α) (S : Store) (k : α → Store → Res β) : (Res.ok a S).bind k = k a S := (rfl)
@[simp] theorem Res.bind_exc {α β : Type} (x : Exn) (S : Store) (k : α → Store → Res β) : (Res.exc x S : Res α).bind k = .exc x S := (rfl)

def keyD : Key → PyData
  | .inl i => .int i
  | .inr x => .str x

/-- the entries of a dict whose keys are tuples -/
def entW (w : World) (x : List Key × Addr × Value) : DictEntry := ⟨reduceHash (Builtin.Tuple.tupleHashOf (x.1.map (keyH w))), .ref x.2.1, x.2.2⟩
def DtI (w : World) (a : Addr) (xs : List (List Key × Addr × Value)) (h : Heap) : Prop :=
  xs.length ≤ sizeLine ∧ (a == sysModules) = false ∧ ∃ o es ep, h.get? a = some o ∧ o.ExactDict ∧ o.data = .dict es ep ∧ es.toList = xs.map (entW w) ∧ (xs.map (·.1)).Nodup
/-- the alternatives of SqL, SqT by the written part -/
def KL (K : PySem.W.Frag) (a : Addr) (xs : List V) : Prop :=
  ∃ (o : Obj) (its : Array Value) (n : Nat), K.lookup a = some o ∧ o.cls = .type "list" ∧ o.dict = none ∧ o.data = .seq its n ∧ its.size ≤ sizeLine ∧ Vals xs its.toList

section
variable (H : Hp) (L : Addr → Prop)
mutual
/-- v is the data, none of whose lists may change (L: what may) -/
inductive Dq : V → PyData → Prop
  | non : Dq .non .none
  | bl (b : Bool) : Dq (.bl b) (.bool b)
  | int (i : Int) : Dq (.int i) (.int i)
  | str (x : Str) : Dq (.str x) (.str x)
  | lst {a : Addr} {xs : List V} {ds : List PyData} : H a = some (.lst xs) → ¬ L a → DqAll xs ds → Dq (.ref a) (.list ds)
  | tup {a : Addr} {o : Obj} {xs : List V} {ds : List PyData} : H a = some (.frz o (.tup xs)) → o.dict = none → ¬ L a → DqAll xs ds → Dq (.ref a) (.tuple ds)
  | dct {a : Addr} {kvs : List (Key × V)} {ds : List (PyData × PyData)} : H a = some (.dK kvs) → ¬ L a → DqKV kvs ds → Dq (.ref a) (.dict ds)
inductive DqAll : List V → List PyData → Prop
  | nil : DqAll [] []
  | cons {v : V} {vs : List V} {d : PyData} {ds : List PyData} : Dq v d → DqAll vs ds → DqAll (v :: vs) (d :: ds)
inductive DqKV : List (Key × V) → List (PyData × PyData) → Prop
  | nil : DqKV [] []
  | cons {k : Key} {v : V} {r : List (Key × V)} {d : PyData} {ds : List (PyData × PyData)} : Dq v d → DqKV r ds → DqKV ((k, v) :: r) ((keyD k, d) :: ds)
end
end

theorem KL.seq {K : PySem.W.Frag} {H : Hp} {a : Addr} {xs : List V} (h : KL K a xs) : SqL K H a xs := .inr h

/-- everything that was tracked and may not change is as it was (but tables of code) -/
def Kpt (L : Addr → Prop) (H H' : Hp) : Prop := ∀ a o, H a = some o → ¬ L a → (∀ ps, o ≠ .tbl ps) → H' a = some o
theorem Kpt.rd {L : Addr → Prop} {H H' : Hp} (k : Kpt L H H') {a : Addr} {o : HO} (h : Rd H a o) (n : ¬ L a) (nt : ∀ ps, o ≠ .tbl ps) : Rd H' a o := by
  rcases h with h | ⟨ob, h⟩
  · exact .inl (k _ _ h n nt)
  · exact .inr ⟨ob, k _ _ h n (fun ps e => by cases e)⟩
theorem rd_some {H : Hp} {a : Addr} {o : HO} (h : Rd H a o) : H a ≠ none := by
  rcases h with h | ⟨_, h⟩ <;> rw [h] <;> exact fun e => by cases e

section
variable {K : PySem.W.Frag} {H H' : Hp} {L L' : Addr → Prop}
mutual
theorem Dq.keep (k : Kpt L H H') (l : ∀ a, L' a → L a ∨ H a = none) : ∀ {v : V} {d : PyData}, Dq H L v d → Dq H' L' v d
  | _, _, .non => .non
  | _, _, .bl b => .bl b
  | _, _, .int i => .int i
  | _, _, .str x => .str x
  | _, _, .lst h n r => .lst (k _ _ h n (fun ps e => by cases e)) (fun z => (l _ z).elim n (fun e => by rw [h] at e; cases e)) (DqAll.keep k l r)
  | _, _, .tup h d n r => .tup (k _ _ h n (fun ps e => by cases e)) d (fun z => (l _ z).elim n (fun e => by rw [h] at e; cases e)) (DqAll.keep k l r)
  | _, _, .dct h n r => .dct (k _ _ h n (fun ps e => by cases e)) (fun z => (l _ z).elim n (fun e => by rw [h] at e; cases e)) (DqKV.keep k l r)
theorem DqAll.keep (k : Kpt L H H') (l : ∀ a, L' a → L a ∨ H a = none) : ∀ {v : List V} {d : List PyData}, DqAll H L v d → DqAll H' L' v d
  | _, _, .nil => .nil
  | _, _, .cons h t => .cons (Dq.keep k l h) (DqAll.keep k l t)
theorem DqKV.keep (k : Kpt L H H') (l : ∀ a, L' a → L a ∨ H a = none) : ∀ {v : List (Key × V)} {d : List (PyData × PyData)}, DqKV H L v d → DqKV H' L' v d
  | _, _, .nil => .nil
  | _, _, .cons h t => .cons (Dq.keep k l h) (DqKV.keep k l t)
end
/-- fewer may change -/
theorem Kpt.refl : Kpt L H H := fun _ _ h _ _ => h
theorem Dq.less (l : ∀ a, L' a → L a) {v : V} {d : PyData} (h : Dq H L v d) : Dq H L' v d := h.keep Kpt.refl fun a z => .inl (l a z)

mutual
theorem Dq.dp : ∀ {v : V} {d : PyData}, Dq H L v d → d.canLay0 = true → Dp K H v d
  | _, _, .non, _ => .non
  | _, _, .bl b, _ => .bl b
  | _, _, .int i, _ => .int i
  | _, _, .str x, _ => .str x
  | _, _, .lst h _ r, c => .lst (.of h) (DqAll.dp r (by simpa [PyData.canLay0] using c))
  | _, _, .tup h _ _ r, c => .tup (.inl (.inr ⟨_, h⟩)) (DqAll.dp r (by simpa [PyData.canLay0] using c))
  | _, _, .dct _ _ _, c => by simp [PyData.canLay0] at c
theorem DqAll.dp : ∀ {v : List V} {d : List PyData}, DqAll H L v d → PyData.canLayAll0 d = true → DpAll K H v d
  | _, _, .nil, _ => .nil
  | _, _, .cons h t, c => by
    simp only [PyData.canLayAll0, Bool.and_eq_true] at c
    exact .cons (Dq.dp h c.1) (DqAll.dp t c.2)
end
theorem DqAll.length : ∀ {v : List V} {d : List PyData}, DqAll H L v d → v.length = d.length
  | _, _, .nil => rfl
  | _, _, .cons _ t => congrArg (· + 1) (DqAll.length t)
theorem DqAll.get : ∀ {v : List V} {d : List PyData} {i : Nat} {x : PyData}, DqAll H L v d → d[i]? = some x → ∃ y, v[i]? = some y ∧ Dq H L y x
  | _, _, _, _, .nil, e => by simp at e
  | _, _, 0, x, .cons h _, e => by
    simp at e; subst e
    exact ⟨_, rfl, h⟩
  | _, _, i + 1, x, .cons _ t, e => by
    obtain ⟨y, a, b⟩ := DqAll.get (i := i) (x := x) t (by simpa using e)
    exact ⟨y, by simpa using a, b⟩
theorem DqAll.getV : ∀ {v : List V} {d : List PyData} {i : Nat} {y : V}, DqAll H L v d → v[i]? = some y → ∃ x, d[i]? = some x ∧ Dq H L y x
  | _, _, _, _, .nil, e => by simp at e
  | _, _, 0, x, .cons h _, e => by
    simp at e; subst e
    exact ⟨_, rfl, h⟩
  | _, _, i + 1, x, .cons _ t, e => by
    obtain ⟨y, a, b⟩ := DqAll.getV (i := i) (y := x) t (by simpa using e)
    exact ⟨y, by simpa using a, b⟩
theorem DqAll.append : ∀ {v w : List V} {d e : List PyData}, DqAll H L v d → DqAll H L w e → DqAll H L (v ++ w) (d ++ e)
  | _, _, _, _, .nil, s => s
  | _, _, _, _, .cons h t, s => .cons h (DqAll.append t s)
theorem DqAll.take : ∀ {v : List V} {d : List PyData} (n : Nat), DqAll H L v d → DqAll H L (v.take n) (d.take n)
  | _, _, 0, _ => .nil
  | _, _, _ + 1, .nil => .nil
  | _, _, n + 1, .cons h t => .cons h (DqAll.take n t)
theorem DqAll.drop : ∀ {v : List V} {d : List PyData} (n : Nat), DqAll H L v d → DqAll H L (v.drop n) (d.drop n)
  | _, _, 0, h => h
  | _, _, _ + 1, .nil => .nil
  | _, _, n + 1, .cons _ t => DqAll.drop n t
theorem DqAll.reverse : ∀ {v : List V} {d : List PyData}, DqAll H L v d → DqAll H L v.reverse d.reverse
  | _, _, .nil => .nil
  | _, _, .cons h t => by
    rw [List.reverse_cons, List.reverse_cons]
    exact (DqAll.reverse t).append (.cons h .nil)
end

/-! ### the store -/
def Live (S : Store) (m : Nat → Addr) (a : Addr) : Prop := ∃ n o, S[n]? = some o ∧ o ≠ .gone ∧ m n = a
/-- what may change: the live things of the store, and what is private (P) -/
def LP (P : Addr → Prop) (S : Store) (m : Nat → Addr) (a : Addr) : Prop := P a ∨ Live S m a

section
variable (K : PySem.W.Frag) (P : Addr → Prop) (S : Store) (H : Hp) (m : Nat → Addr)
def Rp (v : V) : EV → Prop
  | .d x => Dq H (LP P S m) v x
  | .own n => v = .ref (m n) ∧ n < S.length
  | .scr xs => ∃ a vs, v = .ref a ∧ ((Rd H a (.lst vs) ∧ ¬ LP P S m a) ∨ KL K a vs) ∧ DqAll H (LP P S m) vs xs
abbrev RpL : List V → List EV → Prop := Paired (Rp K P S H m)
def SOk (a : Addr) : SO → Prop
  | .lst xs => ∃ vs, H a = some (.lst vs) ∧ RpL K P S H m vs xs
  | .dct kvs => ∃ vs, H a = some (.dK vs) ∧ Paired (fun (p : Key × V) (q : Key × EV) => p.1 = q.1 ∧ Rp K P S H m p.2 q.2) vs kvs
  | .dtp w kvs => ∃ xs : List (List Key × Addr × Value), H a = some (.ext (DtI w a xs)) ∧
      Paired (fun (p : List Key × EV) (q : List Key × Addr × Value) => p.1 = q.1 ∧ Dq H (LP P S m) (.ref q.2.1) (.tuple (p.1.map keyD)) ∧ ∃ v, RelV v q.2.2 ∧ Rp K P S H m v p.2) kvs xs
  | .gone => True
structure Wd (T : List Addr) : Prop where
  ok : ∀ n o, S[n]? = some o → SOk K P S H m (m n) o
  inj : ∀ i j a b, S[i]? = some a → S[j]? = some b → a ≠ .gone → b ≠ .gone → m i = m j → i = j
  tab : ∀ p ∈ T, GxR.TabG H p
  prv : ∀ a, P a → H a ≠ none ∧ ¬ Live S m a
end
/-- from one state to a later one -/
structure To (P : Addr → Prop) (S : Store) (H : Hp) (m : Nat → Addr) (S' : Store) (H' : Hp) (m' : Nat → Addr) : Prop where
  keep : Kpt (Live S m) H H'
  ext : ∀ n, n < S.length → m' n = m n
  le : S.length ≤ S'.length
  live : ∀ a, Live S' m' a → Live S m a ∨ H a = none
  some_ : ∀ a, H a ≠ none → H' a ≠ none

section
variable {K : PySem.W.Frag} {P P' : Addr → Prop} {S S1 S2 : Store} {H H1 H2 : Hp} {m m1 m2 : Nat → Addr} {T : List Addr}
theorem To.refl : To P S H m S H m := ⟨Kpt.refl, fun _ _ => rfl, Nat.le_refl _, fun _ h => .inl h, fun _ h => h⟩
theorem To.trans (a : To P S H m S1 H1 m1) (b : To P S1 H1 m1 S2 H2 m2) : To P S H m S2 H2 m2 where
  keep := fun x o h n t => b.keep x o (a.keep x o h n t) (fun z => (a.live x z).elim n (fun e => by rw [h] at e; cases e)) t
  ext := fun n h => (b.ext n (Nat.lt_of_lt_of_le h a.le)).trans (a.ext n h)
  le := Nat.le_trans a.le b.le
  live := fun x h => (b.live x h).elim (a.live x) fun e => .inr (Decidable.byContradiction fun z => a.some_ x z e)
  some_ := fun x h => b.some_ x (a.some_ x h)
theorem To.prv (a : To P S H m S1 H1 m1) : To P' S H m S1 H1 m1 := ⟨a.keep, a.ext, a.le, a.live, a.some_⟩
theorem To.lp (a : To P S H m S1 H1 m1) (x : Addr) (h : LP P S1 m1 x) : LP P S m x ∨ H x = none := by
  rcases h with h | h
  · exact .inl (.inl h)
  · exact (a.live x h).imp .inr id
theorem To.kpt (a : To P S H m S1 H1 m1) : Kpt (LP P S m) H H1 := fun x o h n t => a.keep x o h (fun z => n (.inr z)) t
theorem To.dq (a : To P S H m S1 H1 m1) {v : V} {x : PyData} (h : Dq H (LP P S m) v x) : Dq H1 (LP P S1 m1) v x := h.keep a.kpt a.lp
theorem To.dqAll (a : To P S H m S1 H1 m1) {v : List V} {x : List PyData} (h : DqAll H (LP P S m) v x) : DqAll H1 (LP P S1 m1) v x := h.keep a.kpt a.lp
theorem To.rp (a : To P S H m S1 H1 m1) {v : V} : ∀ {x : EV}, Rp K P S H m v x → Rp K P S1 H1 m1 v x
  | .d _, h => a.dq h
  | .own n, h => ⟨by rw [a.ext n h.2]; exact h.1, Nat.lt_of_lt_of_le h.2 a.le⟩
  | .scr xs, ⟨b, vs, e, h, r⟩ => ⟨b, vs, e, h.imp (fun ⟨h1, h2⟩ => ⟨a.kpt.rd h1 h2 (fun ps e => by cases e), fun z => (a.lp _ z).elim h2 (rd_some h1)⟩) id, a.dqAll r⟩
theorem To.rpL (a : To P S H m S1 H1 m1) : ∀ {v : List V} {x : List EV}, RpL K P S H m v x → RpL K P S1 H1 m1 v x
  | _, _, .nil => .nil
  | _, _, .cons h t => .cons (a.rp h) (To.rpL a t)
theorem RpL.length {v : List V} {x : List EV} (h : RpL K P S H m v x) : v.length = x.length := Paired.length h
theorem RpL.get : ∀ {v : List V} {x : List EV} {i : Nat} {e : EV}, RpL K P S H m v x → x[i]? = some e → ∃ y, v[i]? = some y ∧ Rp K P S H m y e
  | _, _, _, _, .nil, e => by simp at e
  | _, _, 0, _, .cons h _, e => by
    simp at e; subst e
    exact ⟨_, rfl, h⟩
  | _, _, i + 1, x, .cons _ t, e => by
    obtain ⟨y, a, b⟩ := RpL.get (i := i) (e := x) t (by simpa using e)
    exact ⟨y, by simpa using a, b⟩
theorem RpL.getV : ∀ {v : List V} {x : List EV} {i : Nat} {y : V}, RpL K P S H m v x → v[i]? = some y → ∃ e, x[i]? = some e ∧ Rp K P S H m y e
  | _, _, _, _, .nil, e => by simp at e
  | _, _, 0, _, .cons h _, e => by
    simp at e; subst e
    exact ⟨_, rfl, h⟩
  | _, _, i + 1, x, .cons _ t, e => by
    obtain ⟨y, a, b⟩ := RpL.getV (i := i) (y := x) t (by simpa using e)
    exact ⟨y, by simpa using a, b⟩
theorem RpL.append : ∀ {v w : List V} {x y : List EV}, RpL K P S H m v x → RpL K P S H m w y → RpL K P S H m (v ++ w) (x ++ y)
  | _, _, _, _, .nil, s => s
  | _, _, _, _, .cons h t, s => .cons h (RpL.append t s)
theorem RpL.set {u : V} {e : EV} (r : Rp K P S H m u e) : ∀ {v : List V} {x : List EV} (i : Nat), RpL K P S H m v x → RpL K P S H m (v.set i u) (x.set i e)
  | _, _, _, .nil => .nil
  | _, _, 0, .cons _ t => .cons r t
  | _, _, i + 1, .cons q t => .cons q (RpL.set r i t)
theorem RpL.take : ∀ {v : List V} {x : List EV} (n : Nat), RpL K P S H m v x → RpL K P S H m (v.take n) (x.take n)
  | _, _, 0, _ => .nil
  | _, _, _ + 1, .nil => .nil
  | _, _, n + 1, .cons h t => .cons h (RpL.take n t)
theorem RpL.drop : ∀ {v : List V} {x : List EV} (n : Nat), RpL K P S H m v x → RpL K P S H m (v.drop n) (x.drop n)
  | _, _, 0, h => h
  | _, _, _ + 1, .nil => .nil
  | _, _, n + 1, .cons _ t => RpL.drop n t
theorem RpL.dropLast : ∀ {v : List V} {x : List EV}, RpL K P S H m v x → RpL K P S H m v.dropLast x.dropLast := fun {v x} h => by
  rw [List.dropLast_eq_take, List.dropLast_eq_take, h.length]
  exact h.take _
theorem RpL.eraseIdx : ∀ {v : List V} {x : List EV} (n : Nat), RpL K P S H m v x → RpL K P S H m (v.eraseIdx n) (x.eraseIdx n)
  | _, _, _, .nil => .nil
  | _, _, 0, .cons _ t => t
  | _, _, n + 1, .cons h t => .cons h (RpL.eraseIdx n t)
theorem RpL.reverse : ∀ {v : List V} {x : List EV}, RpL K P S H m v x → RpL K P S H m v.reverse x.reverse
  | _, _, .nil => .nil
  | _, _, .cons h t => by
    rw [List.reverse_cons, List.reverse_cons]
    exact (RpL.reverse t).append (.cons h .nil)
/-- data as values of worth -/
def evs (ds : List PyData) : List EV := ds.map .d
theorem DqAll.rpL : ∀ {v : List V} {ds : List PyData}, DqAll H (LP P S m) v ds → RpL K P S H m v (evs ds)
  | _, _, .nil => .nil
  | _, _, .cons h t => .cons h (DqAll.rpL t)
theorem RpL.dq : ∀ {v : List V} {ds : List PyData}, RpL K P S H m v (evs ds) → DqAll H (LP P S m) v ds
  | _, [], h => by cases h; exact .nil
  | _, d :: ds, h => by
    cases h with
    | cons a b => exact .cons a (RpL.dq b)

theorem SOk.to (a : To P S H m S1 H1 m1) {x : Addr} : ∀ {o : SO}, H1 x = H x → SOk K P S H m x o → SOk K P S1 H1 m1 x o
  | .lst xs, e, ⟨vs, h, r⟩ => ⟨vs, e.trans h, a.rpL r⟩
  | .dct kvs, e, ⟨vs, h, r⟩ => ⟨vs, e.trans h, Paired.mapP r fun _ _ q => ⟨q.1, a.rp q.2⟩⟩
  | .dtp w kvs, e, ⟨xs, h, r⟩ => ⟨xs, e.trans h, Paired.mapP r fun _ _ q => ⟨q.1, a.dq q.2.1, q.2.2.imp fun _ z => ⟨z.1, a.rp z.2⟩⟩⟩
  | .gone, _, _ => trivial
theorem Wd.some_ (w : Wd K P S H m T) {n : Nat} {o : SO} (h : S[n]? = some o) (ng : o ≠ .gone) : H (m n) ≠ none := by
  have q := w.ok n o h
  cases o with
  | lst xs => obtain ⟨vs, e, _⟩ := q; rw [e]; exact fun z => by cases z
  | dct kvs => obtain ⟨vs, e, _⟩ := q; rw [e]; exact fun z => by cases z
  | dtp w kvs => obtain ⟨vs, e, _⟩ := q; rw [e]; exact fun z => by cases z
  | gone => exact absurd rfl ng
theorem Wd.liveSome (w : Wd K P S H m T) {a : Addr} (h : Live S m a) : H a ≠ none := by
  obtain ⟨n, o, h1, h2, rfl⟩ := h
  exact w.some_ h1 h2
theorem Wd.fresh (w : Wd K P S H m T) {p : Addr} (h : H p = none) : ¬ LP P S m p := fun z => by
  rcases z with z | z
  · exact (w.prv p z).1 h
  · exact w.liveSome z h
theorem tabG_upd {p q : Addr} {o : HO} (h : GxR.TabG H q) (hp : H p = none) : GxR.TabG (upd H p o) q := by
  obtain ⟨ps, e, r⟩ := h
  exact ⟨ps, by rw [upd_ne (ne_of_none e hp)]; exact e, r⟩

/-- a new thing that the store does not know -/
theorem To.new (w : Wd K P S H m T) {p : Addr} {o : HO} (hp : H p = none) : To P S H m S (upd H p o) m where
  keep := fun a u h _ _ => by rw [upd_ne (ne_of_none h hp)]; exact h
  ext := fun _ _ => rfl
  le := Nat.le_refl _
  live := fun _ h => .inl h
  some_ := fun a h => by
    by_cases e : a = p
    · rw [e, upd_same]; exact fun z => by cases z
    · rw [upd_ne e]; exact h
theorem Wd.new (w : Wd K P S H m T) {p : Addr} {o : HO} (hp : H p = none) : Wd K P S (upd H p o) m T where
  ok := fun n u h => by
    by_cases g : u = .gone
    · rw [g]; trivial
    · exact SOk.to (To.new w hp) (upd_ne fun e => w.some_ h g (by rw [e]; exact hp)) (w.ok n u h)
  inj := w.inj
  tab := fun q hq => tabG_upd (w.tab q hq) hp
  prv := fun a ha => ⟨(To.new (o := o) w hp).some_ a (w.prv a ha).1, (w.prv a ha).2⟩

def ext1 (m : Nat → Addr) (n : Nat) (p : Addr) : Nat → Addr := fun k => if k = n then p else m k
theorem ext1_same {n : Nat} {p : Addr} : ext1 m n p n = p := if_pos rfl
theorem ext1_ne {n k : Nat} {p : Addr} (h : k ≠ n) : ext1 m n p k = m k := if_neg h

theorem getE_snoc {o u : SO} {n : Nat} (h : (S ++ [o])[n]? = some u) : (n < S.length ∧ S[n]? = some u) ∨ (n = S.length ∧ u = o) := by
  by_cases hn : n < S.length
  · exact .inl ⟨hn, by rw [List.getElem?_append_left hn] at h; exact h⟩
  · have h9 := (List.getElem?_eq_some_iff.mp h).1
    rw [List.length_append] at h9
    have e : n = S.length := by simp at h9; omega
    refine .inr ⟨e, ?_⟩
    rw [e, List.getElem?_append_right (Nat.le_refl _)] at h
    simp at h
    exact h.symm
theorem live_snoc {o : SO} {p a : Addr} (h : Live (S ++ [o]) (ext1 m S.length p) a) : Live S m a ∨ a = p := by
  obtain ⟨n, u, h1, h2, h3⟩ := h
  rcases getE_snoc h1 with ⟨hn, hu⟩ | ⟨rfl, rfl⟩
  · exact .inl ⟨n, u, hu, h2, by rw [← h3, ext1_ne (Nat.ne_of_lt hn)]⟩
  · exact .inr (by rw [← h3, ext1_same])
/-- a new thing of the store -/
theorem To.alloc (w : Wd K P S H m T) {p : Addr} {o : HO} {u : SO} (hp : H p = none) : To P S H m (S ++ [u]) (upd H p o) (ext1 m S.length p) where
  keep := (To.new w hp).keep
  ext := fun n h => ext1_ne (Nat.ne_of_lt h)
  le := by rw [List.length_append]; exact Nat.le_add_right _ _
  live := fun a h => (live_snoc h).imp id fun e => by rw [e]; exact hp
  some_ := (To.new w hp).some_
theorem Wd.alloc (w : Wd K P S H m T) {p : Addr} {xs : List V} {es : List EV} (hp : H p = none) (r : RpL K P S H m xs es) :
    Wd K P (S ++ [.lst es]) (upd H p (.lst xs)) (ext1 m S.length p) T where
  ok := fun n u h => by
    have t := To.alloc (o := .lst xs) (u := .lst es) w hp
    rcases getE_snoc h with ⟨hn, hu⟩ | ⟨rfl, rfl⟩
    · rw [ext1_ne (Nat.ne_of_lt hn)]
      by_cases g : u = .gone
      · rw [g]; trivial
      · exact SOk.to t (upd_ne fun e => w.some_ hu g (by rw [e]; exact hp)) (w.ok n u hu)
    · rw [ext1_same]
      exact ⟨xs, upd_same, t.rpL r⟩
  inj := fun i j a b hi hj ga gb e => by
    rcases getE_snoc hi with ⟨h1, h2⟩ | ⟨rfl, rfl⟩ <;> rcases getE_snoc hj with ⟨h3, h4⟩ | ⟨rfl, rfl⟩
    · rw [ext1_ne (Nat.ne_of_lt h1), ext1_ne (Nat.ne_of_lt h3)] at e
      exact w.inj i j a b h2 h4 ga gb e
    · rw [ext1_ne (Nat.ne_of_lt h1), ext1_same] at e
      exact absurd (by rw [e]; exact hp) (w.some_ h2 ga)
    · rw [ext1_ne (Nat.ne_of_lt h3), ext1_same] at e
      exact absurd (by rw [← e]; exact hp) (w.some_ h4 gb)
    · rfl
  tab := fun q hq => tabG_upd (w.tab q hq) hp
  prv := fun a ha => ⟨(To.new (o := .lst xs) w hp).some_ a (w.prv a ha).1, fun h => (live_snoc h).elim (w.prv a ha).2 fun e => (w.prv a ha).1 (by rw [e]; exact hp)⟩

theorem live_set {n : Nat} {o u : SO} {a : Addr} (hn : S[n]? = some o) (ho : o ≠ .gone) (h : Live (S.set n u) m a) : Live S m a := by
  obtain ⟨k, v, h1, h2, h3⟩ := h
  by_cases e : n = k
  · subst e; exact ⟨n, o, hn, ho, h3⟩
  · exact ⟨k, v, by rw [List.getElem?_set_ne e] at h1; exact h1, h2, h3⟩
theorem tabG_write {a q : Addr} {vs ws : List V} (h : GxR.TabG H q) (hp : H a = some (.lst vs)) : GxR.TabG (upd H a (.lst ws)) q := by
  obtain ⟨ps, e, r⟩ := h
  exact ⟨ps, by rw [upd_ne (ne_of e hp (fun z => by cases z))]; exact e, r⟩
/-- a list of the store is written -/
theorem To.write (w : Wd K P S H m T) {n : Nat} {xs ys : List EV} {ws : List V} (h : S[n]? = some (.lst xs)) : To P S H m (S.set n (.lst ys)) (upd H (m n) (.lst ws)) m where
  keep := fun a o ha nl _ => by rw [upd_ne fun e => nl ⟨n, _, h, (fun z => by cases z), e.symm⟩]; exact ha
  ext := fun _ _ => rfl
  le := by rw [List.length_set]; exact Nat.le_refl _
  live := fun a z => .inl (live_set h (fun z => by cases z) z)
  some_ := fun a ha => by
    by_cases e : a = m n
    · rw [e, upd_same]; exact fun z => by cases z
    · rw [upd_ne e]; exact ha
theorem Wd.write (w : Wd K P S H m T) {n : Nat} {xs ys : List EV} {ws : List V} (h : S[n]? = some (.lst xs)) (r : RpL K P S H m ws ys) : Wd K P (S.set n (.lst ys)) (upd H (m n) (.lst ws)) m T where
  ok := fun k o hk => by
    have t := To.write (ys := ys) (ws := ws) w h
    by_cases e : n = k
    · subst e
      have hl : n < S.length := (List.getElem?_eq_some_iff.mp h).1
      rw [List.getElem?_set_self hl] at hk
      cases hk
      exact ⟨ws, upd_same, t.rpL r⟩
    · rw [List.getElem?_set_ne e] at hk
      by_cases g : o = .gone
      · rw [g]; trivial
      · exact SOk.to t (upd_ne fun z => e (w.inj k n o _ hk h g (fun z => by cases z) z).symm) (w.ok k o hk)
  inj := fun i j a b hi hj ga gb e => by
    have mem : ∀ {i : Nat} {a : SO}, (S.set n (.lst ys))[i]? = some a → a ≠ .gone → ∃ a', S[i]? = some a' ∧ a' ≠ .gone := fun {i a} hi ga => by
      by_cases e : n = i
      · subst e; exact ⟨_, h, fun z => by cases z⟩
      · rw [List.getElem?_set_ne e] at hi; exact ⟨a, hi, ga⟩
    obtain ⟨a', h1, g1⟩ := mem hi ga
    obtain ⟨b', h2, g2⟩ := mem hj gb
    exact w.inj i j a' b' h1 h2 g1 g2 e
  tab := fun q hq => by
    obtain ⟨vs, e, _⟩ := w.ok n _ h
    exact tabG_write (w.tab q hq) e
  prv := fun a ha => ⟨(To.write (ys := ys) (ws := ws) w h).some_ a (w.prv a ha).1, fun z => (w.prv a ha).2 (live_set h (fun z => by cases z) z)⟩
/-- a list of the store is given up: from now on it never changes -/
theorem To.freeze {n : Nat} {o : SO} (h : S[n]? = some o) (ho : o ≠ .gone) : To P S H m (S.set n .gone) H m where
  keep := Kpt.refl
  ext := fun _ _ => rfl
  le := by rw [List.length_set]; exact Nat.le_refl _
  live := fun a z => .inl (live_set h ho z)
  some_ := fun _ h => h
theorem Wd.freeze (w : Wd K P S H m T) {n : Nat} {o : SO} (h : S[n]? = some o) (ho : o ≠ .gone) : Wd K P (S.set n .gone) H m T where
  ok := fun k u hk => by
    by_cases e : n = k
    · subst e
      rw [List.getElem?_set_self (List.getElem?_eq_some_iff.mp h).1] at hk
      cases hk
      trivial
    · rw [List.getElem?_set_ne e] at hk
      exact SOk.to (To.freeze h ho) rfl (w.ok k u hk)
  inj := fun i j a b hi hj ga gb e => by
    have mem : ∀ {i : Nat} {a : SO}, (S.set n .gone)[i]? = some a → a ≠ .gone → ∃ a', S[i]? = some a' ∧ a' ≠ .gone := fun {i a} hi ga => by
      by_cases e : n = i
      · subst e; exact ⟨_, h, ho⟩
      · rw [List.getElem?_set_ne e] at hi; exact ⟨a, hi, ga⟩
    obtain ⟨a', h1, g1⟩ := mem hi ga
    obtain ⟨b', h2, g2⟩ := mem hj gb
    exact w.inj i j a' b' h1 h2 g1 g2 e
  tab := w.tab
  prv := fun a ha => ⟨(w.prv a ha).1, fun z => (w.prv a ha).2 (live_set h ho z)⟩
theorem Wd.frozen (w : Wd K P S H m T) {n : Nat} {ds : List PyData} (h : S[n]? = some (.lst (evs ds))) : Dq H (LP P (S.set n .gone) m) (.ref (m n)) (.list ds) := by
  obtain ⟨vs, e, r⟩ := w.ok n _ h
  refine .lst e (fun z => ?_) ?_
  · rcases z with z | ⟨k, o, h1, h2, h3⟩
    · exact (w.prv _ z).2 ⟨n, _, h, (fun z => by cases z), rfl⟩
    · by_cases q : n = k
      · subst q
        rw [List.getElem?_set_self (List.getElem?_eq_some_iff.mp h).1] at h1
        cases h1
        exact h2 rfl
      · rw [List.getElem?_set_ne q] at h1
        exact q (w.inj k n o _ h1 h h2 (fun z => by cases z) h3).symm
  · exact (To.freeze h (fun z => by cases z)).dqAll r.dq
end
end Z
set_option maxRecDepth 100000
/-! Z2: the judgements; names, displays, operators, comparisons, tests. -/
namespace Z
open PySem PySem.Spec PyProof.Rows L2

abbrev Rho := List (Option EV)
abbrev EF := Rho → Store → Res EV
abbrev AF := Rho → Store → Res (List EV)
abbrev BF := Rho → Store → Res Bool

section
variable (K : PySem.W.Frag) (P : Addr → Prop) (S : Store) (H : Hp) (m : Nat → Addr)
def EnvR (ρ : Rho) (σ : L2.St) : Prop := ρ.length = σ.length ∧ ∀ (i : Nat) (x : EV), ρ[i]? = some (some x) → ∃ v, σ[i]? = some (some v) ∧ Rp K P S H m v x
def ExR (e : Exn) (c : Value) (d : Option Addr) : Prop :=
  c = .ref e.cls ∧ (e.fs = [] ∨ ∃ a vs, d = some a ∧ H a = some (.xd vs) ∧ ¬ LP P S m a ∧ ∀ f x, e.fs.lookup f = some x → ∃ v, vs.lookup f = some v ∧ Dq H (LP P S m) v x)
end
/-- what is wanted behind a part that ends as r tells; Rel: how its end lies -/
def Post {α β : Type} (K : PySem.W.Frag) (T : List Addr) (P : Addr → Prop) (Rel : Store → Hp → (Nat → Addr) → β → α → Prop) (S : Store) (H : Hp) (m : Nat → Addr) (σ : L2.St) (W : WX) (r : Res α) (Q : β → Hp → Prop) : Prop :=
  match r with
  | .bad => False
  | .ok x S' => ∀ H' m' v, To P S H m S' H' m' → Wd K P S' H' m' T → Rel S' H' m' v x → Q v H'
  | .exc e S' => ∀ H' m' c d, To P S H m S' H' m' → Wd K P S' H' m' T → ExR P S' H' m' e c d → W c d σ H'
abbrev RelE (K : PySem.W.Frag) (P : Addr → Prop) : Store → Hp → (Nat → Addr) → V → EV → Prop := fun S H m v x => Rp K P S H m v x
abbrev RelA (K : PySem.W.Frag) (P : Addr → Prop) : Store → Hp → (Nat → Addr) → List V → List EV → Prop := fun S H m v x => RpL K P S H m v x
abbrev RelB : Store → Hp → (Nat → Addr) → Bool → Bool → Prop := fun _ _ _ b x => b = x

section
variable {α β γ δ : Type} {K : PySem.W.Frag} {T : List Addr} {P : Addr → Prop} {S S1 : Store} {H H1 : Hp} {m m1 : Nat → Addr} {σ : L2.St} {W : WX}
variable {Rel : Store → Hp → (Nat → Addr) → β → α → Prop} {RelC : Store → Hp → (Nat → Addr) → δ → γ → Prop}
theorem Post.after (t : To P S H m S1 H1 m1) {r : Res α} {Q : β → Hp → Prop} (h : Post K T P Rel S H m σ W r Q) : Post K T P Rel S1 H1 m1 σ W r Q := by
  cases r with
  | bad => exact h
  | ok x S' => exact fun H' m' v a w r => h H' m' v (t.trans a) w r
  | exc e S' => exact fun H' m' c d a w r => h H' m' c d (t.trans a) w r
theorem Post.step {r : Res α} {k : α → Store → Res γ} {Q : δ → Hp → Prop} {Q1 : β → Hp → Prop} (h : Post K T P RelC S H m σ W (r.bind k) Q)
    (j : ∀ S1 H1 m1 v x, To P S H m S1 H1 m1 → Wd K P S1 H1 m1 T → Rel S1 H1 m1 v x → Post K T P RelC S1 H1 m1 σ W (k x S1) Q → Q1 v H1) : Post K T P Rel S H m σ W r Q1 := by
  cases r with
  | bad => exact h
  | ok x S' => exact fun H' m' v a w r => j S' H' m' v x a w r (Post.after a h)
  | exc e S' => exact h
theorem Post.mono {r : Res α} {Q Q1 : β → Hp → Prop} (h : Post K T P Rel S H m σ W r Q) (j : ∀ v H', Q v H' → Q1 v H') : Post K T P Rel S H m σ W r Q1 := by
  cases r with
  | bad => exact h
  | ok x S' => exact fun H' m' v a w r => j _ _ (h H' m' v a w r)
  | exc e S' => exact h
theorem Post.done {x : α} {Q : β → Hp → Prop} {v : β} (w : Wd K P S H m T) (h : Post K T P Rel S H m σ W (.ok x S) Q) (r : Rel S H m v x) : Q v H := h H m v To.refl w r
theorem EnvR.to {ρ : Rho} (t : To P S H m S1 H1 m1) (e : EnvR K P S H m ρ σ) : EnvR K P S1 H1 m1 ρ σ := ⟨e.1, fun i x h => by
  obtain ⟨v, a, b⟩ := e.2 i x h
  exact ⟨v, a, t.rp b⟩⟩
theorem EnvR.set {ρ : Rho} {x : EV} {v : V} (i : Nat) (r : Rp K P S H m v x) (e : EnvR K P S H m ρ σ) : EnvR K P S H m (ρ.set i (some x)) (σ.set i (some v)) := by
  refine ⟨by rw [List.length_set, List.length_set]; exact e.1, fun j y h => ?_⟩
  by_cases q : i = j
  · subst q
    have hl : i < ρ.length := by
      have := (List.getElem?_eq_some_iff.mp h).1
      rwa [List.length_set] at this
    rw [List.getElem?_set_self hl] at h
    cases h
    exact ⟨v, List.getElem?_set_self (by rw [← e.1]; exact hl), r⟩
  · rw [List.getElem?_set_ne q] at h ⊢
    exact e.2 j y h
end

/-! ### tuples that are known to their objects -/
def tupO (its : List Value) : Obj := { cls := .type "tuple", data := .seq its.toArray }
section
variable {X : Cx} {pins : List (Addr × Obj)} {σ : L2.St} {H : Hp} {s : Shared} {xs : List V} {its : List Value}
theorem Inv.tnew {t' : Nat} (I : Inv X pins σ H s) (hv : Vals xs its) (hz : xs.length ≤ sizeLine) :
    Inv X pins σ (upd H s.heap.objs.size (.frz (tupO its) (.tup xs))) { s with heap := s.heap.push (tupO its), toks := t' } :=
  I.laid (fun _ _ q => Heap.get?_push_of_some _ q) (Nat.le_refl _) ⟨Heap.get?_push_size _ rfl, hz, its, hv, IsTup.new _ _⟩
/-- a new tuple, in what is wanted -/
def NewT (H : Hp) (Q : VK) (xs : List V) : Prop := ∀ p its, H p = none → Q (.ref p) (upd H p (.frz (tupO its) (.tup xs)))
def tTupF (t : TA) : TE := fun σ H Q => t σ H fun xs H1 => xs.length ≤ sizeLine ∧ NewT H1 Q xs
theorem pe_tupF {es : List Expr} {x1 : Nat} {pos : Pos} {t : TA} (h : PA X es t) : PE X (.Tuple es x1 pos) (tTupF t) := by
  refine ⟨fun pins s σ H Q I hq => ?_⟩
  refine wpAny_Tuple_spliced (thn (h.run pos pins s σ H _ I hq) fun us s1 ⟨xs, H1, I1, r, z, q⟩ => ⟨by rw [← r.length]; exact z, ?_⟩)
  exact ⟨.ref s1.heap.objs.size, _, Inv.tnew (t' := s1.toks) I1 r z, rfl, q _ _ I1.fresh⟩
def rCatF (K : PySem.W.Frag) : R2 := fun x y H Q => ∃ a b xs ys, x = .ref a ∧ y = .ref b ∧ SqT K H a xs ∧ SqT K H b ys ∧ xs.length + ys.length ≤ sizeLine ∧
  (xs = [] → Q (.ref b) H) ∧ (xs ≠ [] → ys = [] → Q (.ref a) H) ∧ (xs ≠ [] → ys ≠ [] → NewT H Q (xs ++ ys))
theorem op_catF : OpR X (binaryOp .Add) (rCatF X.K) := by
  intro pins s σ H x y v u Q I rx ry h
  obtain ⟨a, b, xs, ys, rfl, rfl, ha, hb, hz, q0, q1, q2⟩ := h
  by_cases hx : xs = []
  · exact op_catA pins s σ H _ _ v u Q I rx ry ⟨a, b, xs, ys, rfl, rfl, ha, hb, hz, q0, q1, fun z => absurd hx z⟩
  · by_cases hy : ys = []
    · exact op_catA pins s σ H _ _ v u Q I rx ry ⟨a, b, xs, ys, rfl, rfl, ha, hb, hz, q0, q1, fun _ z => absurd hy z⟩
    · cases rx
      cases ry
      obtain ⟨its, r1, p1, _⟩ := I.tuple ha
      obtain ⟨its2, r2, p2, _⟩ := I.tuple hb
      refine HT.cat_tup p1 p2 (fun z => hx (r1.nil_iff.mp z)) (fun z => absurd (r2.nil_iff.mp z) hy) (fun z => ?_) (by rw [← r1.length, ← r2.length]; exact hz)
      exact ⟨.ref s.heap.objs.size, _, Inv.tnew (t' := s.toks) I (r1.append r2) (by rw [List.length_append]; exact hz), rfl, q2 hx hy _ _ I.fresh⟩
def rSlF (K : PySem.W.Frag) : V → Option Int → Option Int → Hp → VK → Prop := fun x lo hi H Q => ∃ a xs, x = .ref a ∧ SqT K H a xs ∧
  (HT.sIx xs.length 0 lo = 0 ∧ HT.sIx xs.length xs.length hi = xs.length → Q (.ref a) H) ∧ (¬ (HT.sIx xs.length 0 lo = 0 ∧ HT.sIx xs.length xs.length hi = xs.length) → NewT H Q (cutV xs lo hi))
theorem sl_tupF : SlR X (rSlF X.K) := by
  intro pins s σ H x v vl vu lo hi sl Q I rx hs pl pu h
  obtain ⟨a, xs, rfl, hx, q1, q2⟩ := h
  by_cases hw : HT.sIx xs.length 0 lo = 0 ∧ HT.sIx xs.length xs.length hi = xs.length
  · exact sl_tupA pins s σ H _ v vl vu lo hi sl Q I rx hs pl pu ⟨a, xs, rfl, hx, q1, fun z => absurd hw z⟩
  · cases rx
    obtain ⟨its, r, ht, hz⟩ := I.tuple hx
    have hlen : its.toArray.size = xs.length := by rw [List.size_toArray]; exact r.length.symm
    refine ⟨"tuple", _, PyProof.Rows.slot_tuple_getitem.lookup, ht.typeIs, ?_⟩
    refine HT.getItem_tuple_cut ht hs pl pu (by rw [hlen]; exact hw) ?_ (by rw [hlen]; exact hz)
    rw [hlen]
    exact ⟨.ref s.heap.objs.size, _, Inv.tnew (t' := s.toks) I ((r.drop (HT.sIx xs.length 0 lo)).take (HT.sIx xs.length xs.length hi - HT.sIx xs.length 0 lo)) (Nat.le_trans (cutV_length xs lo hi) hz), rfl, q2 hw _ _ I.fresh⟩
theorem call_tupleF : CallR X (.type "tuple") (fun xs H Q => ∃ p ys, xs = [.ref p] ∧ ((SqL X.K H p ys ∧ NewT H Q ys) ∨ (SqT X.K H p ys ∧ Q (.ref p) H))) := by
  intro pins s σ H xs us Q I r h
  obtain ⟨p, ys, rfl, h⟩ := h
  rcases h with ⟨hq, q⟩ | ⟨hq, q⟩
  · obtain ⟨u, rfl, rx⟩ := vals1 r
    cases rx
    obtain ⟨its, r', pl, hz⟩ := I.list hq
    have hlen := r'.length
    refine call_tuple_list pl.isList (fun h' kp => ?_) (by simp only [List.size_toArray] <;> omega)
    have I1 : Inv X pins σ H { s with heap := h' } := I.kept (t' := s.toks) kp
    exact ⟨.ref h'.objs.size, _, Inv.tnew (t' := s.toks) I1 r' hz, rfl, q _ _ I1.fresh⟩
  · exact call_tuple_of pins s σ H _ us Q I r ⟨p, ys, rfl, .inr ⟨hq, q⟩⟩
def rRepF (K : PySem.W.Frag) : R2 := fun x y H Q => ∃ l k xs, x = .ref l ∧ y = .int k ∧ SqT K H l xs ∧ xs ≠ [] ∧ 2 ≤ k ∧ k ≤ 1000 ∧ xs.length ≤ 1000 ∧ NewT H Q (List.replicate k.toNat xs).flatten
theorem op_repF : OpR X (binaryOp .Mult) (rRepF X.K) := by
  intro pins s σ H x y v u Q I rx ry h
  obtain ⟨l, k, xs, rfl, rfl, hT, hne, h1, h2, hz, q⟩ := h
  cases rx
  obtain ⟨t, rfl⟩ := ry
  obtain ⟨its, r, ⟨⟨cls, dd, data, sl⟩, ho, hc, n, hd⟩, hs⟩ := I.tuple hT
  simp only at hc hd
  subst hc hd
  have hle : its.length = xs.length := r.length.symm
  have hn : its ≠ [] := fun e => hne (by
    rw [e] at hle
    exact List.eq_nil_of_length_eq_zero hle.symm)
  have hi : its.toArray.isEmpty = false := by
    cases its with
    | nil => exact absurd rfl hn
    | cons a b => rfl
  have hsz0 : its.toArray.size = xs.length := by rw [List.size_toArray, hle]
  have hm : ((its.toArray.size : Nat) : Int) * k ≤ 1000000 := by
    rw [hsz0]
    have a1 : ((xs.length : Nat) : Int) * k ≤ 1000 * k := Int.mul_le_mul_of_nonneg_right (by omega) (by omega)
    omega
  have flen : (List.replicate k.toNat its).flatten.length ≤ sizeLine := by
    rw [PyProof.Rows.lm_len_rep_flat, hle, sizeLine_eq]
    have a1 : k.toNat * xs.length ≤ 1000 * 1000 := Nat.mul_le_mul (by omega) hz
    omega
  have c0 : (decide (k < -(2 ^ 63)) || decide (k ≥ 2 ^ 63)) = false := by
    rw [decide_eq_false (by omega), decide_eq_false (by omega)] <;> rfl
  have c1 : (its.toArray.isEmpty || k == 1) = false := by
    rw [hi, Bool.false_or]
    exact beq_eq_false_iff_ne.mpr (by omega)
  have c2 : (decide (k ≤ 0) || its.toArray.isEmpty) = false := by
    rw [hi, Bool.or_false]
    exact decide_eq_false (by omega)
  have c4 : Builtin.Tuple.tupleTooMany (((its.toArray.size : Nat) : Int) * k) = false := by
    unfold Builtin.Tuple.tupleTooMany
    rw [sizeLine_eq]
    exact decide_eq_false (by omega)
  refine wpAny_binaryOp_repeat_ref (T := "tuple") (U := "int") (by decide) ⟨_, ho, rfl⟩ (fun s' => typeIs_int s' k t) noFill_tuple_mul F.fills_int_mul F.slot_int_rmul repeat_tuple F.slot_int_index.lookup
    (call_meets F.slot_int_rmul (typeIs_int s k t) F.entry_int_rmul (F.args_int_rmul_2 _ _) (int_rmul_tuple k t l its.toArray n dd sl)
      ⟨ho, rfl, ⟨_, ho, rfl⟩, call_meets F.slot_tuple_mul ⟨_, ho, rfl⟩ F.entry_tuple_mul (F.args_tuple_mul_2 _ _) (tuple_mulW l its.toArray n dd sl k t c0 c1 c2 (by omega) c4 (by rw [size_rep, List.size_toArray]; exact flen)) ⟨ho, ?_⟩⟩)
  rw [size_rep]
  exact ⟨.ref s.heap.objs.size, _, Inv.tnew (t' := s.toks) I (r.rep k.toNat) (by rw [PyProof.Rows.lm_len_rep_flat, sizeLine_eq]; have a1 : k.toNat * xs.length ≤ 1000 * 1000 := Nat.mul_le_mul (by omega) hz; omega), rfl, q _ _ I.fresh⟩
end

/-! ### families of contexts -/
structure Fam {ι : Type} (X : ι → Cx) (K : PySem.W.Frag) (N : List Str) : Prop where
  K : ∀ i, (X i).K = K
  calm : ∀ i, (X i).calm = true
  hu : ∀ i, (X i).A.units + 65 < cLine
  nd : N.Nodup
  N : ∀ i, (X i).N = N

section
variable {ι : Type} (X : ι → Cx) (K : PySem.W.Frag) (T : List Addr) (W : WX)
structure DE (e : Expr) (f : EF) : Prop where
  ex : ∃ t : TE, (∀ i, PE (X i) e t) ∧ ∀ P ρ S H m σ Q, Wd K P S H m T → EnvR K P S H m ρ σ → Post K T P (RelE K P) S H m σ W (f ρ S) Q → t σ H Q
structure DA (es : List Expr) (f : AF) : Prop where
  ex : ∃ t : TA, (∀ i, PA (X i) es t) ∧ ∀ P ρ S H m σ Q, Wd K P S H m T → EnvR K P S H m ρ σ → Post K T P (RelA K P) S H m σ W (f ρ S) Q → t σ H Q
/-- a test -/
structure DT (e : Expr) (f : BF) : Prop where
  ex : ∃ t : TT, (∀ i, PT (X i) e t) ∧ ∀ P ρ S H m σ Q, Wd K P S H m T → EnvR K P S H m ρ σ → Post K T P RelB S H m σ W (f ρ S) Q → t σ H Q
/-- a test within and, or -/
structure DW (e : Expr) (f : BF) : Prop where
  ex : ∃ t : TT, (∀ i, PW (X i) e t) ∧ ∀ P ρ S H m σ Q, Wd K P S H m T → EnvR K P S H m ρ σ → Post K T P RelB S H m σ W (f ρ S) Q → t σ H Q
/-- a two-place operation by values -/
structure OpD (F : Value → Value → Sem Value) (g : EV → EV → Store → Res EV) : Prop where
  ex : ∃ r : R2, (∀ i, OpR (X i) F r) ∧ ∀ P S H m σ W x y v u Q, Wd K P S H m T → Rp K P S H m v x → Rp K P S H m u y → Post K T P (RelE K P) S H m σ W (g x y S) Q → r v u H Q
end

section
variable {ι : Type} {X : ι → Cx} {K : PySem.W.Frag} {T : List Addr} {W : WX} {N : List Str}
variable {a b e : Expr} {fa fb f : EF} {pos : Pos}

/-! ### names, constants -/
def varF (i : Nat) : EF := fun ρ S => match ρ[i]? with
  | some (some x) => .ok x S
  | _ => .bad
theorem de_var (F : Fam X K N) (i : Nat) {x : Str} (hN : N[i]? = some x := by rfl) (hv : ∀ j, Vis (X j).env.scope x := by intro _; first | exact Or.inl rfl | exact Or.inr (Or.inl rfl) | exact Or.inr (Or.inr rfl))
    (hd : (x == ("__debug__" : Str)) = false := by decide) (hcd : (x == ("__classdict__" : Str)) = false := by decide) : DE X K T W (.Name x pos) (varF i) := by
  refine ⟨tVar i, fun j => pe_var (by rw [F.N j]; exact hN) (hv j) hd hcd, fun P ρ S H m σ Q w er h => ?_⟩
  unfold varF at h
  cases q : ρ[i]? with
  | none => rw [q] at h; exact h.elim
  | some o =>
    cases o with
    | none => rw [q] at h; exact h.elim
    | some x =>
      rw [q] at h
      obtain ⟨v, hv, r⟩ := er.2 i x q
      exact ⟨v, hv, Post.done (Rel := RelE K P) w h r⟩
def kF (d : PyData) : EF := fun _ S => .ok (.d d) S
theorem de_int {i : Int} {k : Nat} : DE X K T W (.Constant (.int i) k pos) (kF (.int i)) := ⟨_, fun _ => pe_int, fun P ρ S H m σ Q w er h => Post.done (Rel := RelE K P) (v := V.int i) w h (Dq.int i)⟩
theorem de_bl {i : Bool} {k : Nat} : DE X K T W (.Constant (.bool i) k pos) (kF (.bool i)) := ⟨_, fun _ => pe_bl, fun P ρ S H m σ Q w er h => Post.done (Rel := RelE K P) (v := V.bl i) w h (Dq.bl i)⟩
theorem de_non {k : Nat} : DE X K T W (.Constant .none k pos) (kF .none) := ⟨_, fun _ => pe_non, fun P ρ S H m σ Q w er h => Post.done (Rel := RelE K P) (v := V.non) w h Dq.non⟩
theorem de_str {i : Str} {k : Nat} : DE X K T W (.Constant (.str i) k pos) (kF (.str i)) := ⟨_, fun _ => pe_str, fun P ρ S H m σ Q w er h => Post.done (Rel := RelE K P) (v := V.str i) w h (Dq.str i)⟩

/-! ### arguments, displays -/
def nilF : AF := fun _ S => .ok [] S
def consF (f : EF) (g : AF) : AF := fun ρ S => (f ρ S).bind fun x S1 => (g ρ S1).bind fun xs S2 => .ok (x :: xs) S2
theorem da_nil : DA X K T W [] nilF := ⟨tNil, fun _ => pa_nil, fun P ρ S H m σ Q w er h => Post.done (Rel := RelA K P) (v := []) w h .nil⟩
theorem da_cons {es : List Expr} {fs : AF} (he : DE X K T W e f) (hs : DA X K T W es fs) (st : ∀ i, starEach (e :: es) (X i).env = (false, eval e (X i).env) :: starEach es (X i).env := by intro _; rfl) : DA X K T W (e :: es) (consF f fs) := by
  obtain ⟨t, pt, ht⟩ := he.ex
  obtain ⟨u, pu, hu⟩ := hs.ex
  refine ⟨tCons t u, fun i => pa_cons (pt i) (pu i) (st i), fun P ρ S H m σ Q w er h => ?_⟩
  refine ht P ρ S H m σ _ w er (Post.step h fun S1 H1 m1 v x t1 w1 r1 h1 => ?_)
  refine hu P ρ S1 H1 m1 σ _ w1 (er.to t1) (Post.step h1 fun S2 H2 m2 vs xs t2 w2 r2 h2 => ?_)
  exact Post.done (Rel := RelA K P) (v := v :: vs) w2 h2 (.cons (t2.rp r1) r2)
/-- all of them data -/
def datas : List EV → Option (List PyData)
  | [] => some []
  | .d x :: r => (datas r).map (x :: ·)
  | _ :: _ => none
theorem datas_evs (ds : List PyData) : datas (evs ds) = some ds := by
  induction ds with
  | nil => rfl
  | cons d ds ih => show (datas (evs ds)).map _ = _; rw [ih]; rfl
theorem evs_of : ∀ {xs : List EV} {ds : List PyData}, datas xs = some ds → xs = evs ds
  | [], ds, h => by cases h; rfl
  | .d x :: r, ds, h => by
    have h' : (datas r).map (x :: ·) = some ds := h
    cases q : datas r with
    | none => rw [q] at h'; cases h'
    | some es => rw [q] at h'; cases h'; rw [evs_of q]; rfl
  | .own _ :: _, _, h => by cases h
  | .scr _ :: _, _, h => by cases h
def mkTup (xs : List EV) (S : Store) : Res EV := match datas xs with
  | some ds => if ds.length ≤ sizeLine then .ok (.d (.tuple ds)) S else .bad
  | none => .bad
def mkLst (xs : List EV) (S : Store) : Res EV := match datas xs with
  | some ds => if ds.length ≤ sizeLine then .ok (.d (.list ds)) S else .bad
  | none => .bad
def mkOwn (xs : List EV) (S : Store) : Res EV := if xs.length ≤ sizeLine then .ok (.own S.length) (S ++ [.lst xs]) else .bad

section
variable {P : Addr → Prop} {S : Store} {H : Hp} {m : Nat → Addr} {σ : L2.St}
/-- a new tuple, list of these values -/
theorem post_tup {xs : List EV} {vs : List V} {Q : VK} (w : Wd K P S H m T) (r : RpL K P S H m vs xs) (h : Post K T P (RelE K P) S H m σ W (mkTup xs S) Q) :
    vs.length ≤ sizeLine ∧ NewT H Q vs := by
  unfold mkTup at h
  split at h
  · rename_i ds q
    obtain rfl := evs_of q
    split at h
    · rename_i hl
      refine ⟨by rw [r.length]; simpa [evs] using hl, fun p its hp => ?_⟩
      exact h _ m _ (To.new w hp) (w.new hp) (Dq.tup upd_same rfl (w.fresh hp) ((To.new w hp).dqAll r.dq))
    · exact h.elim
  · exact h.elim
theorem post_lst {xs : List EV} {vs : List V} {Q : VK} (w : Wd K P S H m T) (r : RpL K P S H m vs xs) (h : Post K T P (RelE K P) S H m σ W (mkLst xs S) Q) :
    vs.length ≤ sizeLine ∧ ∀ p, H p = none → Q (.ref p) (upd H p (.lst vs)) := by
  unfold mkLst at h
  split at h
  · rename_i ds q
    obtain rfl := evs_of q
    split at h
    · rename_i hl
      refine ⟨by rw [r.length]; simpa [evs] using hl, fun p hp => ?_⟩
      exact h _ m _ (To.new w hp) (w.new hp) (Dq.lst upd_same (w.fresh hp) ((To.new w hp).dqAll r.dq))
    · exact h.elim
  · exact h.elim
theorem post_own {xs : List EV} {vs : List V} {Q : VK} (w : Wd K P S H m T) (r : RpL K P S H m vs xs) (h : Post K T P (RelE K P) S H m σ W (mkOwn xs S) Q) :
    vs.length ≤ sizeLine ∧ ∀ p, H p = none → Q (.ref p) (upd H p (.lst vs)) := by
  unfold mkOwn at h
  split at h
  · rename_i hl
    refine ⟨by rw [r.length]; exact hl, fun p hp => ?_⟩
    exact h _ _ _ (To.alloc w hp) (w.alloc hp r) ⟨by rw [ext1_same], by rw [List.length_append]; exact Nat.lt_succ_self _⟩
  · exact h.elim
end
def tupF (fs : AF) : EF := fun ρ S => (fs ρ S).bind mkTup
def lstF (fs : AF) : EF := fun ρ S => (fs ρ S).bind mkLst
def ownF (fs : AF) : EF := fun ρ S => (fs ρ S).bind mkOwn
variable {es : List Expr} {fs : AF}
theorem de_tup {k : Nat} (hs : DA X K T W es fs) : DE X K T W (.Tuple es k pos) (tupF fs) := by
  obtain ⟨t, pt, ht⟩ := hs.ex
  refine ⟨tTupF t, fun i => pe_tupF (pt i), fun P ρ S H m σ Q w er h => ?_⟩
  exact ht P ρ S H m σ _ w er (Post.step h fun S1 H1 m1 v x t1 w1 r1 h1 => post_tup w1 r1 h1)
theorem de_lst (hs : DA X K T W es fs) : DE X K T W (.List es pos) (lstF fs) := by
  obtain ⟨t, pt, ht⟩ := hs.ex
  refine ⟨tLst t, fun i => pe_lst (pt i), fun P ρ S H m σ Q w er h => ?_⟩
  exact ht P ρ S H m σ _ w er (Post.step h fun S1 H1 m1 v x t1 w1 r1 h1 => post_lst w1 r1 h1)
theorem de_own (hs : DA X K T W es fs) : DE X K T W (.List es pos) (ownF fs) := by
  obtain ⟨t, pt, ht⟩ := hs.ex
  refine ⟨tLst t, fun i => pe_lst (pt i), fun P ρ S H m σ Q w er h => ?_⟩
  exact ht P ρ S H m σ _ w er (Post.step h fun S1 H1 m1 v x t1 w1 r1 h1 => post_own w1 r1 h1)

/-! ### operators -/
def opF (g : EV → EV → Store → Res EV) (fa fb : EF) : EF := fun ρ S => (fa ρ S).bind fun x S1 => (fb ρ S1).bind fun y S2 => g x y S2
variable {g g' : EV → EV → Store → Res EV} {G : Value → Value → Sem Value}
theorem op_run {P : Addr → Prop} {ρ : Rho} {S : Store} {H : Hp} {m : Nat → Addr} {σ : L2.St} {Q : VK} {ta tb : TE} {r : R2}
    (ha : ∀ P ρ S H m σ Q, Wd K P S H m T → EnvR K P S H m ρ σ → Post K T P (RelE K P) S H m σ W (fa ρ S) Q → ta σ H Q)
    (hb : ∀ P ρ S H m σ Q, Wd K P S H m T → EnvR K P S H m ρ σ → Post K T P (RelE K P) S H m σ W (fb ρ S) Q → tb σ H Q)
    (hr : ∀ P S H m σ W x y v u Q, Wd K P S H m T → Rp K P S H m v x → Rp K P S H m u y → Post K T P (RelE K P) S H m σ W (g x y S) Q → r v u H Q)
    (w : Wd K P S H m T) (er : EnvR K P S H m ρ σ) (h : Post K T P (RelE K P) S H m σ W (opF g fa fb ρ S) Q) : tOp r ta tb σ H Q := by
  refine ha P ρ S H m σ _ w er (Post.step h fun S1 H1 m1 v x t1 w1 r1 h1 => ?_)
  refine hb P ρ S1 H1 m1 σ _ w1 (er.to t1) (Post.step h1 fun S2 H2 m2 u y t2 w2 r2 h2 => ?_)
  exact hr P S2 H2 m2 σ W x y v u Q w2 (t2.rp r1) r2 h2
theorem de_op {op : Operator} (o : OpD X K T (binaryOp op) g) (ha : DE X K T W a fa) (hb : DE X K T W b fb) : DE X K T W (.BinOp a op b pos) (opF g fa fb) := by
  obtain ⟨r, pr, hr⟩ := o.ex
  obtain ⟨ta, pa, hA⟩ := ha.ex
  obtain ⟨tb, pb, hB⟩ := hb.ex
  exact ⟨tOp r ta tb, fun i => pe_op (pr i) (pa i) (pb i), fun P ρ S H m σ Q w er h => op_run hA hB hr w er h⟩
theorem de_cmp {op : CmpOp} (o : OpD X K T (compareOp op) g) (ha : DE X K T W a fa) (hb : DE X K T W b fb) (hm : behindInMarks op b = false := by rfl) : DE X K T W (.Compare a [op] [b] pos) (opF g fa fb) := by
  obtain ⟨r, pr, hr⟩ := o.ex
  obtain ⟨ta, pa, hA⟩ := ha.ex
  obtain ⟨tb, pb, hB⟩ := hb.ex
  exact ⟨tOp r ta tb, fun i => pe_cmpR (pr i) (pa i) (pb i) hm, fun P ρ S H m σ Q w er h => op_run hA hB hr w er h⟩
def asB : EV → Store → Res Bool
  | .d (.bool b), S => .ok b S
  | _, _ => .bad
def testF (f : EF) : BF := fun ρ S => (f ρ S).bind asB
theorem asB_inv {P : Addr → Prop} {S : Store} {H : Hp} {m : Nat → Addr} {σ : L2.St} {x : EV} {v : V} {Q : Bool → Hp → Prop} (w : Wd K P S H m T) (r : Rp K P S H m v x) (h : Post K T P RelB S H m σ W (asB x S) Q) : ∃ c, v = .bl c ∧ Q c H := by
  unfold asB at h
  split at h
  · cases r
    exact ⟨_, rfl, Post.done (Rel := RelB) w h rfl⟩
  · exact h.elim
theorem dt_cmp {op : CmpOp} (o : OpD X K T (compareOp op) g) (ha : DE X K T W a fa) (hb : DE X K T W b fb) (hm : behindInMarks op b = false := by rfl) : DT X K T W (.Compare a [op] [b] pos) (testF (opF g fa fb)) := by
  obtain ⟨r, pr, hr⟩ := o.ex
  obtain ⟨ta, pa, hA⟩ := ha.ex
  obtain ⟨tb, pb, hB⟩ := hb.ex
  refine ⟨tTest (tOp r ta tb), fun i => pt_cmpR (pr i) (pa i) (pb i) hm, fun P ρ S H m σ Q w er h => ?_⟩
  exact op_run hA hB hr w er (Post.step (Rel := RelE K P) h fun S1 H1 m1 v x t1 w1 r1 h1 => asB_inv w1 r1 h1)
def Res.or {α : Type} (r q : Res α) : Res α := match r with
  | .bad => q
  | r => r
@[simp] theorem Res.or_bad {α : Type} (q : Res α) : (Res.bad : Res α).or q = q := (rfl)
@[simp] theorem Res.or_ok {α : Type} (q : Res α) (a : α) (S : Store) : (Res.ok a S).or q = .ok a S := (rfl)
def gOr (g g' : EV → EV → Store → Res EV) : EV → EV → Store → Res EV := fun x y S => (g x y S).or (g' x y S)
theorem OpD.or (o : OpD X K T G g) (o' : OpD X K T G g') : OpD X K T G (gOr g g') := by
  obtain ⟨r, pr, hr⟩ := o.ex
  obtain ⟨r', pr', hr'⟩ := o'.ex
  refine ⟨fun x y H Q => r x y H Q ∨ r' x y H Q, fun i => OpR.or (pr i) (pr' i), fun P S H m σ W x y v u Q w r1 r2 h => ?_⟩
  unfold gOr Res.or at h
  split at h
  · exact .inr (hr' P S H m σ W x y v u Q w r1 r2 h)
  · exact .inl (hr P S H m σ W x y v u Q w r1 r2 h)
/-- ints -/
def gI (C : Int → Int → Prop) [∀ i j, Decidable (C i j)] (f : Int → Int → Int) : EV → EV → Store → Res EV
  | .d (.int i), .d (.int j), S => if C i j then .ok (.d (.int (f i j))) S else .bad
  | _, _, _ => .bad
theorem opd_int {C : Int → Int → Prop} [∀ i j, Decidable (C i j)] {f : Int → Int → Int} (o : ∀ i, OpR (X i) G (rI C fun i j => .int (f i j))) : OpD X K T G (gI C f) := by
  refine ⟨_, o, fun P S H m σ W x y v u Q w r1 r2 h => ?_⟩
  unfold gI at h
  split at h
  · split at h
    · cases r1
      cases r2
      exact ⟨_, _, rfl, rfl, by assumption, Post.done (Rel := RelE K P) w h (Dq.int _)⟩
    · exact h.elim
  · exact h.elim
def CTrue (_ _ : Int) : Prop := True
instance : ∀ i j, Decidable (CTrue i j) := fun _ _ => .isTrue trivial
instance : ∀ i j, Decidable (CMul i j) := fun i j => by unfold CMul; infer_instance
instance : ∀ i j, Decidable (CDivN i j) := fun i j => by unfold CDivN; infer_instance
instance : ∀ i j, Decidable (CPow i j) := fun i j => by unfold CPow; infer_instance
theorem rI_true {X : Cx} {f : Int → Int → Int} (o : OpR X G (rI0 fun i j => .int (f i j))) : OpR X G (rI CTrue fun i j => .int (f i j)) := fun pins s σ H x y v u Q I rx ry ⟨i, j, e1, e2, _, q⟩ => o pins s σ H x y v u Q I rx ry ⟨i, j, e1, e2, q⟩
theorem opd_add : OpD X K T (binaryOp .Add) (gI CTrue fun i j => i + j) := opd_int fun _ => rI_true op_add
theorem opd_sub : OpD X K T (binaryOp .Sub) (gI CTrue fun i j => i - j) := opd_int fun _ => rI_true op_sub
theorem opd_mul : OpD X K T (binaryOp .Mult) (gI CMul fun i j => i * j) := opd_int fun _ => op_mul
theorem opd_div : OpD X K T (binaryOp .FloorDiv) (gI CDivN fun i j => i.fdiv j) := opd_int fun _ => op_fdivN
theorem opd_mod : OpD X K T (binaryOp .Mod) (gI (fun _ j => j ≠ 0) fun i j => i.fmod j) := opd_int fun _ => op_modN
theorem opd_pow : OpD X K T (binaryOp .Pow) (gI CPow fun i j => i ^ j.toNat) := opd_int fun _ => op_pow
/-- ints compared -/
def gC (f : Int → Int → Bool) : EV → EV → Store → Res EV
  | .d (.int i), .d (.int j), S => .ok (.d (.bool (f i j))) S
  | _, _, _ => .bad
theorem opd_cmpI {f : Int → Int → Bool} (o : ∀ i, OpR (X i) G (rI0 fun i j => .bl (f i j))) : OpD X K T G (gC f) := by
  refine ⟨_, o, fun P S H m σ W x y v u Q w r1 r2 h => ?_⟩
  unfold gC at h
  split at h
  · cases r1
    cases r2
    exact ⟨_, _, rfl, rfl, Post.done (Rel := RelE K P) w h (Dq.bl _)⟩
  · exact h.elim
theorem opd_lt : OpD X K T (compareOp .Lt) (gC fun i j => decide (i < j)) := opd_cmpI fun _ => op_lt
theorem opd_le : OpD X K T (compareOp .LtE) (gC fun i j => decide (i ≤ j)) := opd_cmpI fun _ => op_le
theorem opd_gt : OpD X K T (compareOp .Gt) (gC fun i j => decide (j < i)) := opd_cmpI fun _ => op_gt
theorem opd_ge : OpD X K T (compareOp .GtE) (gC fun i j => decide (j ≤ i)) := opd_cmpI fun _ => op_ge
/-- what a value is by worth now -/
def view (S : Store) : EV → Option PyData
  | .d x => some x
  | .own n => match S[n]? with
    | some (.lst xs) => (datas xs).map .list
    | _ => none
  | .scr _ => none
theorem view_dp {P : Addr → Prop} {S : Store} {H : Hp} {m : Nat → Addr} {x : EV} {v : V} {d : PyData} (w : Wd K P S H m T) (r : Rp K P S H m v x) (e : view S x = some d) (c : d.canLay0 = true) : Dp K H v d := by
  cases x with
  | d y =>
    cases e
    exact Dq.dp r c
  | scr xs => cases e
  | own n =>
    obtain ⟨rfl, hn⟩ := r
    simp only [view] at e
    cases hS : S[n]? with
    | none => rw [hS] at e; cases e
    | some o =>
      rw [hS] at e
      cases o with
      | gone => cases e
      | dct _ => cases e
      | dtp _ _ => cases e
      | lst xs =>
        simp only at e
        cases q : datas xs with
        | none => rw [q] at e; cases e
        | some ds =>
          rw [q] at e
          cases e
          obtain rfl := evs_of q
          obtain ⟨vs, e1, r1⟩ := w.ok n _ hS
          exact .lst (.of e1) (DqAll.dp r1.dq (by simpa [PyData.canLay0] using c))
/-- == and != of data -/
def gEq (neg : Bool) : EV → EV → Store → Res EV := fun x y S => match view S x, view S y with
  | some a, some b => if SeqAt.shaped a = true ∧ SeqAt.shaped b = true then .ok (.d (.bool (neg ^^ PyData.eqv a b))) S else .bad
  | _, _ => .bad
theorem opd_eq (F : Fam X K N) : OpD X K T (compareOp .Eq) (gEq false) := by
  refine ⟨rEqD K, fun i => by have := op_eqD (X := X i) (Nat.lt_of_succ_lt (F.hu i)); rw [F.K i] at this; exact this, fun P S H m σ W x y v u Q w r1 r2 h => ?_⟩
  unfold gEq at h
  split at h
  · rename_i a b ea eb
    split at h
    · rename_i c
      refine ⟨a, b, view_dp w r1 ea (SeqAt.canLay_of_shaped c.1), view_dp w r2 eb (SeqAt.canLay_of_shaped c.2), c.1, c.2, ?_⟩
      exact Post.done (Rel := RelE K P) w h (by rw [Bool.false_xor]; exact Dq.bl _)
    · exact h.elim
  · exact h.elim
theorem opd_ne (F : Fam X K N) : OpD X K T (compareOp .NotEq) (gEq true) := by
  refine ⟨rNeD K, fun i => by have := op_neD (X := X i) (Nat.lt_of_succ_lt (F.hu i)); rw [F.K i] at this; exact this, fun P S H m σ W x y v u Q w r1 r2 h => ?_⟩
  unfold gEq at h
  split at h
  · rename_i a b ea eb
    split at h
    · rename_i c
      refine ⟨a, b, view_dp w r1 ea (SeqAt.canLay_of_shaped c.1), view_dp w r2 eb (SeqAt.canLay_of_shaped c.2), c.1, c.2, ?_⟩
      exact Post.done (Rel := RelE K P) w h (by rw [Bool.true_xor]; exact Dq.bl _)
    · exact h.elim
  · exact h.elim
def isNon : PyData → Bool
  | .none => true
  | _ => false
/-- is None, is True, is False -/
def gIs (neg : Bool) : EV → EV → Store → Res EV
  | .d x, .d .none, S => .ok (.d (.bool (neg ^^ isNon x))) S
  | .d (.bool a), .d (.bool b), S => .ok (.d (.bool (neg ^^ (a == b)))) S
  | _, _, _ => .bad
theorem dq_non {P : Addr → Prop} {S : Store} {H : Hp} {m : Nat → Addr} {x : PyData} {v : V} (h : Dq H (LP P S m) v x) : decide (v = .non) = isNon x := by
  cases h <;> rfl
theorem opd_is (neg : Bool) : OpD X K T (compareOp (if neg then .IsNot else .Is)) (gIs neg) := by
  cases neg
  · refine ⟨fun x y H Q => (y = .non ∧ Q (.bl (decide (x = .non))) H) ∨ (∃ a b : Bool, x = .bl a ∧ y = .bl b ∧ Q (.bl (decide (a = b))) H), fun i => OpR.or op_isN op_isBl, fun P S H m σ W x y v u Q w r1 r2 h => ?_⟩
    unfold gIs at h
    split at h
    · cases r2
      refine .inl ⟨rfl, Post.done (Rel := RelE K P) w h ?_⟩
      rw [dq_non r1, Bool.false_xor]
      exact Dq.bl _
    · cases r1
      cases r2
      refine .inr ⟨_, _, rfl, rfl, Post.done (Rel := RelE K P) w h ?_⟩
      rw [Bool.false_xor, Bool.beq_eq_decide_eq]
      exact Dq.bl _
    · exact h.elim
  · refine ⟨fun x y H Q => (y = .non ∧ Q (.bl (!decide (x = .non))) H) ∨ (∃ a b : Bool, x = .bl a ∧ y = .bl b ∧ Q (.bl (!decide (a = b))) H), fun i => OpR.or op_notN op_notBl, fun P S H m σ W x y v u Q w r1 r2 h => ?_⟩
    unfold gIs at h
    split at h
    · cases r2
      refine .inl ⟨rfl, Post.done (Rel := RelE K P) w h ?_⟩
      rw [dq_non r1, Bool.true_xor]
      exact Dq.bl _
    · cases r1
      cases r2
      refine .inr ⟨_, _, rfl, rfl, Post.done (Rel := RelE K P) w h ?_⟩
      rw [Bool.true_xor, Bool.beq_eq_decide_eq]
      exact Dq.bl _
    · exact h.elim
end
end Z
set_option maxRecDepth 100000
/-! Z3: further operators, tests, subscripts, built-ins. -/
namespace Z
open PySem PySem.Spec PyProof.Rows L2
section
variable {ι : Type} {X : ι → Cx} {K : PySem.W.Frag} {T : List Addr} {W : WX} {N : List Str}
variable {a b c e : Expr} {fa fb fc f : EF} {pos : Pos} {es : List Expr} {fs : AF}
variable {P : Addr → Prop} {S : Store} {H : Hp} {m : Nat → Addr} {σ : L2.St}

theorem rp_int {v : V} {k : Int} (r : Rp K P S H m v (.d (.int k))) : v = .int k := by cases r; rfl
theorem rp_str {v : V} {k : Str} (r : Rp K P S H m v (.d (.str k))) : v = .str k := by cases r; rfl
theorem rp_bl {v : V} {k : Bool} (r : Rp K P S H m v (.d (.bool k))) : v = .bl k := by cases r; rfl
theorem rp_non {v : V} (r : Rp K P S H m v (.d .none)) : v = .non := by cases r; rfl
/-! ### what a value's items are -/
def itemsL (S : Store) : EV → Option (List EV)
  | .d (.list ds) => some (evs ds)
  | .own n => match S[n]? with
    | some (.lst xs) => some xs
    | _ => none
  | _ => none
def itemsT : EV → Option (List EV)
  | .d (.tuple ds) => some (evs ds)
  | _ => none
def itemsS : EV → Option (List EV)
  | .scr ds => some (evs ds)
  | _ => none
theorem itemsL_H {x : EV} {v : V} {xs : List EV} (w : Wd K P S H m T) (r : Rp K P S H m v x) (e : itemsL S x = some xs) : ∃ a vs, v = .ref a ∧ H a = some (.lst vs) ∧ RpL K P S H m vs xs := by
  cases x with
  | d y =>
    cases y <;> simp only [itemsL] at e <;> cases e
    cases r with
    | lst h _ q => exact ⟨_, _, rfl, h, q.rpL⟩
  | scr _ => cases e
  | own n =>
    obtain ⟨rfl, hn⟩ := r
    simp only [itemsL] at e
    cases hS : S[n]? with
    | none => rw [hS] at e; cases e
    | some o =>
      rw [hS] at e
      cases o with
      | gone => cases e
      | dct _ => cases e
      | dtp _ _ => cases e
      | lst ys =>
        cases e
        obtain ⟨vs, e1, r1⟩ := w.ok n _ hS
        exact ⟨_, vs, rfl, e1, r1⟩
theorem itemsT_H {x : EV} {v : V} {xs : List EV} (r : Rp K P S H m v x) (e : itemsT x = some xs) : ∃ a o vs, v = .ref a ∧ H a = some (.frz o (.tup vs)) ∧ o.dict = none ∧ RpL K P S H m vs xs := by
  cases x with
  | d y =>
    cases y <;> simp only [itemsT] at e <;> cases e
    cases r with
    | tup h d _ q => exact ⟨_, _, _, rfl, h, d, q.rpL⟩
  | scr _ => cases e
  | own n => cases e
theorem itemsS_H {x : EV} {v : V} {xs : List EV} (r : Rp K P S H m v x) (e : itemsS x = some xs) : ∃ a vs, v = .ref a ∧ SqL K H a vs ∧ RpL K P S H m vs xs := by
  cases x with
  | d y => cases e
  | own n => cases e
  | scr ds =>
    cases e
    obtain ⟨a, vs, rfl, h, q⟩ := r
    exact ⟨a, vs, rfl, h.elim (fun z => .inl z.1) .inr, q.rpL⟩
/-- lists, the law's list -/
def itemsLS (S : Store) (x : EV) : Option (List EV) := (itemsL S x).or (itemsS x)
theorem itemsLS_H {x : EV} {v : V} {xs : List EV} (w : Wd K P S H m T) (r : Rp K P S H m v x) (e : itemsLS S x = some xs) : ∃ a vs, v = .ref a ∧ SqL K H a vs ∧ RpL K P S H m vs xs := by
  unfold itemsLS at e
  cases q : itemsL S x with
  | some ys =>
    rw [q] at e
    cases e
    obtain ⟨a, vs, e1, h, r1⟩ := itemsL_H w r q
    exact ⟨a, vs, e1, .of h, r1⟩
  | none =>
    rw [q] at e
    exact itemsS_H r e
theorem sqT_frz {a : Addr} {o : Obj} {vs : List V} (h : H a = some (.frz o (.tup vs))) : SqT K H a vs := .inl (.inr ⟨o, h⟩)

/-! ### + and * of sequences -/
def gAddS : EV → EV → Store → Res EV
  | .d (.str x), .d (.str y), S => if x.length + y.length ≤ sizeLine then .ok (.d (.str (x ++ y))) S else .bad
  | _, _, _ => .bad
theorem opd_addS : OpD X K T (binaryOp .Add) gAddS := by
  refine ⟨_, fun i => op_add_str, fun P S H m σ W x y v u Q w r1 r2 h => ?_⟩
  unfold gAddS at h
  split at h
  · split at h
    · cases r1
      cases r2
      exact ⟨_, _, rfl, rfl, by assumption, Post.done (Rel := RelE K P) w h (Dq.str _)⟩
    · exact h.elim
  · exact h.elim
def gAddT : EV → EV → Store → Res EV
  | .d (.tuple x), .d (.tuple y), S => if x.length + y.length ≤ sizeLine then .ok (.d (.tuple (x ++ y))) S else .bad
  | _, _, _ => .bad
theorem newT_post {vs : List V} {ds : List PyData} {Q : VK} (w : Wd K P S H m T) (q : DqAll H (LP P S m) vs ds) (h : Post K T P (RelE K P) S H m σ W (.ok (.d (.tuple ds)) S) Q) : NewT H Q vs :=
  fun p its hp => h _ m _ (To.new w hp) (w.new hp) (Dq.tup upd_same rfl (w.fresh hp) ((To.new w hp).dqAll q))
theorem newL_post {vs : List V} {ds : List PyData} {Q : VK} (w : Wd K P S H m T) (q : DqAll H (LP P S m) vs ds) (h : Post K T P (RelE K P) S H m σ W (.ok (.d (.list ds)) S) Q) : ∀ p, H p = none → Q (.ref p) (upd H p (.lst vs)) :=
  fun p hp => h _ m _ (To.new w hp) (w.new hp) (Dq.lst upd_same (w.fresh hp) ((To.new w hp).dqAll q))
theorem opd_addT (F : Fam X K N) : OpD X K T (binaryOp .Add) gAddT := by
  refine ⟨rCatF K, fun i => by have := op_catF (X := X i); rw [F.K i] at this; exact this, fun P S H m σ W x y v u Q w r1 r2 h => ?_⟩
  unfold gAddT at h
  split at h
  · rename_i x y S
    split at h
    · rename_i hl
      cases r1 with
      | tup h1 d1 n1 q1 =>
        rename_i a1 o1 xs
        cases r2 with
        | tup h2 d2 n2 q2 =>
          rename_i a2 o2 ys
          have l1 := q1.length
          have l2 := q2.length
          refine ⟨_, _, xs, ys, rfl, rfl, sqT_frz h1, sqT_frz h2, by omega, fun z => ?_, fun z z2 => ?_, fun z z2 => newT_post w (q1.append q2) h⟩
          · subst z
            cases q1
            exact Post.done (Rel := RelE K P) w h (Dq.tup h2 d2 n2 q2)
          · subst z2
            cases q2
            exact Post.done (Rel := RelE K P) w h (by rw [List.append_nil]; exact Dq.tup h1 d1 n1 q1)
    · exact h.elim
  · exact h.elim
def gAddL : EV → EV → Store → Res EV := fun x y S => match itemsL S x, itemsL S y with
  | some xs, some ys => mkLst (xs ++ ys) S
  | _, _ => .bad
theorem opd_addL : OpD X K T (binaryOp .Add) gAddL := by
  refine ⟨rCat, fun i => op_cat, fun P S H m σ W x y v u Q w r1 r2 h => ?_⟩
  unfold gAddL at h
  split at h
  · rename_i xs ys e1 e2
    obtain ⟨a1, v1, rfl, h1, q1⟩ := itemsL_H w r1 e1
    obtain ⟨a2, v2, rfl, h2, q2⟩ := itemsL_H w r2 e2
    obtain ⟨hl, hn⟩ := post_lst w (q1.append q2) h
    exact ⟨a1, a2, v1, v2, rfl, rfl, h1, h2, by rw [List.length_append] at hl; exact hl, hn⟩
  · exact h.elim
/-- a + b, all kinds -/
def gAdd : EV → EV → Store → Res EV := gOr (gI CTrue fun i j => i + j) (gOr gAddS (gOr gAddT gAddL))
theorem opd_plus (F : Fam X K N) : OpD X K T (binaryOp .Add) gAdd := opd_add.or (opd_addS.or ((opd_addT F).or opd_addL))
def gRepL : EV → EV → Store → Res EV := fun x y S => match itemsL S x, y with
  | some xs, .d (.int k) => if 0 ≤ k ∧ k ≤ 1000 ∧ xs.length ≤ 1000 then mkLst (List.replicate k.toNat xs).flatten S else .bad
  | _, _ => .bad
theorem rep_rpL {vs : List V} {xs : List EV} (q : RpL K P S H m vs xs) : ∀ n, RpL K P S H m (List.replicate n vs).flatten (List.replicate n xs).flatten
  | 0 => .nil
  | n + 1 => by
    rw [List.replicate_succ, List.replicate_succ, List.flatten_cons, List.flatten_cons]
    exact q.append (rep_rpL q n)
theorem rep_dq {vs : List V} {xs : List PyData} (q : DqAll H (LP P S m) vs xs) : ∀ n, DqAll H (LP P S m) (List.replicate n vs).flatten (List.replicate n xs).flatten
  | 0 => .nil
  | n + 1 => by
    rw [List.replicate_succ, List.replicate_succ, List.flatten_cons, List.flatten_cons]
    exact q.append (rep_dq q n)
theorem opd_repL : OpD X K T (binaryOp .Mult) gRepL := by
  refine ⟨rRep, fun i => op_rep, fun P S H m σ W x y v u Q w r1 r2 h => ?_⟩
  unfold gRepL at h
  split at h
  · rename_i xs k e1
    split at h
    · rename_i c
      obtain ⟨a1, v1, rfl, h1, q1⟩ := itemsL_H w r1 e1
      obtain rfl := rp_int r2
      obtain ⟨hl, hn⟩ := post_lst w (rep_rpL q1 k.toNat) h
      have hle := q1.length
      refine ⟨a1, k, v1, rfl, rfl, h1, by omega, by omega, ?_, hn⟩
      rw [sizeLine_eq]
      have a2 : v1.length * k.toNat ≤ 1000 * 1000 := Nat.mul_le_mul (by omega) (by omega)
      omega
    · exact h.elim
  · exact h.elim
def gRepT : EV → EV → Store → Res EV
  | .d (.tuple x), .d (.int k), S => if x ≠ [] ∧ 2 ≤ k ∧ k ≤ 1000 ∧ x.length ≤ 1000 then .ok (.d (.tuple (List.replicate k.toNat x).flatten)) S else .bad
  | _, _, _ => .bad
theorem opd_repT (F : Fam X K N) : OpD X K T (binaryOp .Mult) gRepT := by
  refine ⟨rRepF K, fun i => by have := op_repF (X := X i); rw [F.K i] at this; exact this, fun P S H m σ W x y v u Q w r1 r2 h => ?_⟩
  unfold gRepT at h
  split at h
  · split at h
    · rename_i c
      cases r1 with
      | tup h1 d1 n1 q1 =>
        rename_i a1 o1 xs
        cases r2
        have l1 := q1.length
        exact ⟨_, _, xs, rfl, rfl, sqT_frz h1, fun z => by subst z; cases q1; exact c.1 rfl, c.2.1, c.2.2.1, by omega, newT_post w (rep_dq q1 _) h⟩
    · exact h.elim
  · exact h.elim
def gRepS : EV → EV → Store → Res EV
  | .d (.str x), .d (.int k), S => if 0 ≤ k ∧ k ≤ 1000 ∧ x.length ≤ 1000 then .ok (.d (.str (Txt.mul x k))) S else .bad
  | _, _, _ => .bad
theorem op_mulS : OpR (X i) (binaryOp .Mult) (fun x y H Q => ∃ z k, x = .str z ∧ y = .int k ∧ 0 ≤ k ∧ k ≤ 1000 ∧ z.length ≤ 1000 ∧ Q (.str (Txt.mul z k)) H) := by
  intro pins s σ H x y v u Q I rx ry h
  obtain ⟨z, k, rfl, rfl, h1, h2, h3, q⟩ := h
  obtain ⟨t, rfl⟩ := rx
  obtain ⟨t', rfl⟩ := ry
  refine SB.mul ⟨?_, fun a b z => ?_, fun a b => ?_⟩ fun t' tk => ⟨.str _, H, I.tok _, ⟨_, rfl⟩, q⟩
  · rw [decide_eq_false (by omega), decide_eq_false (by omega)] <;> rfl
  · have a3 : (1000 : Int) ≤ (2 ^ 63 - 1) / k := by
      rw [Int.le_ediv_iff_mul_le (by omega)]
      have : 1000 * k ≤ 1000 * 1000 := by omega
      omega
    omega
  · have a2 : z.length * k.toNat ≤ 1000 * 1000 := Nat.mul_le_mul h3 (by omega)
    have e := sizeLine_eq
    unfold Builtin.Str.tooLong
    first
      | exact decide_eq_false (by omega)
      | (simp; omega)
theorem opd_repS : OpD X K T (binaryOp .Mult) gRepS := by
  refine ⟨_, fun i => op_mulS, fun P S H m σ W x y v u Q w r1 r2 h => ?_⟩
  unfold gRepS at h
  split at h
  · split at h
    · rename_i c
      cases r1
      cases r2
      exact ⟨_, _, rfl, rfl, c.1, c.2.1, c.2.2, Post.done (Rel := RelE K P) w h (Dq.str _)⟩
    · exact h.elim
  · exact h.elim
def gMul : EV → EV → Store → Res EV := gOr (gI CMul fun i j => i * j) (gOr gRepS (gOr gRepT gRepL))
theorem opd_times (F : Fam X K N) : OpD X K T (binaryOp .Mult) gMul := opd_mul.or (opd_repS.or ((opd_repT F).or opd_repL))
end
end Z
set_option maxRecDepth 100000
/-! Z4: tests, bools, in, subscripts, slices, calls of built-ins, methods. -/
namespace Z
open PySem PySem.Spec PyProof.Rows L2
section
variable {ι : Type} {X : ι → Cx} {K : PySem.W.Frag} {T : List Addr} {W : WX} {N : List Str}
variable {a b c e : Expr} {fa fb fc f : EF} {ba bb : BF} {pos : Pos} {es : List Expr} {fs : AF}
variable {P : Addr → Prop} {S : Store} {H : Hp} {m : Nat → Addr} {σ : L2.St}

/-! ### in -/
theorem op_inDT {X : Cx} (hu : X.A.units + 65 < cLine) : OpR X (compareOp .In) (fun x y H Q => ∃ d ds, Dp X.K H x d ∧ Dp X.K H y (.tuple ds) ∧ SeqAt.shaped d = true ∧ SeqAt.shaped (.tuple ds) = true ∧ Q (.bl (ds.any fun z => PyData.eqv z d)) H) := by
  intro pins s σ H x y v u Q I rx ry h
  obtain ⟨d, ds, hd, he, sd, se, q⟩ := h
  obtain ⟨as, r1⟩ := Dp.reads I d x v hd rx
  obtain ⟨bs, r2⟩ := Dp.reads I (.tuple ds) y u he ry
  exact SeqAt.in_tuple_reads r2 r1 (SeqAt.canLay_of_shaped (d := .tuple ds) se) (SeqAt.canLay_of_shaped sd) (room_in_shaped sd hu) ⟨.bl _, H, I, rfl, q⟩
theorem op_notInDT {X : Cx} (hu : X.A.units + 65 < cLine) : OpR X (compareOp .NotIn) (fun x y H Q => ∃ d ds, Dp X.K H x d ∧ Dp X.K H y (.tuple ds) ∧ SeqAt.shaped d = true ∧ SeqAt.shaped (.tuple ds) = true ∧ Q (.bl (!ds.any fun z => PyData.eqv z d)) H) := by
  intro pins s σ H x y v u Q I rx ry h
  obtain ⟨d, ds, hd, he, sd, se, q⟩ := h
  obtain ⟨as, r1⟩ := Dp.reads I d x v hd rx
  obtain ⟨bs, r2⟩ := Dp.reads I (.tuple ds) y u he ry
  exact SeqAt.notIn_tuple_reads r2 r1 (SeqAt.canLay_of_shaped (d := .tuple ds) se) (SeqAt.canLay_of_shaped sd) (room_in_shaped sd hu) ⟨.bl _, H, I, rfl, q⟩
def gInL (neg : Bool) : EV → EV → Store → Res EV := fun x y S => match view S x, view S y with
  | some d, some (.list ds) => if SeqAt.shaped d = true ∧ SeqAt.shaped (.list ds) = true then .ok (.d (.bool (neg ^^ ds.any fun z => PyData.eqv z d))) S else .bad
  | _, _ => .bad
def gInT (neg : Bool) : EV → EV → Store → Res EV := fun x y S => match view S x, view S y with
  | some d, some (.tuple ds) => if SeqAt.shaped d = true ∧ SeqAt.shaped (.tuple ds) = true then .ok (.d (.bool (neg ^^ ds.any fun z => PyData.eqv z d))) S else .bad
  | _, _ => .bad
theorem opd_inL (F : Fam X K N) : OpD X K T (compareOp .In) (gInL false) := by
  refine ⟨rInD K, fun i => by have := op_inD (X := X i) (F.hu i); rw [F.K i] at this; exact this, fun P S H m σ W x y v u Q w r1 r2 h => ?_⟩
  unfold gInL at h
  split at h
  · rename_i d ds e1 e2
    split at h
    · rename_i c
      exact ⟨d, ds, view_dp w r1 e1 (SeqAt.canLay_of_shaped c.1), view_dp w r2 e2 (SeqAt.canLay_of_shaped c.2), c.1, c.2, Post.done (Rel := RelE K P) w h (by rw [Bool.false_xor]; exact Dq.bl _)⟩
    · exact h.elim
  · exact h.elim
theorem opd_notInL (F : Fam X K N) : OpD X K T (compareOp .NotIn) (gInL true) := by
  refine ⟨rNotInD K, fun i => by have := op_notInD (X := X i) (F.hu i); rw [F.K i] at this; exact this, fun P S H m σ W x y v u Q w r1 r2 h => ?_⟩
  unfold gInL at h
  split at h
  · rename_i d ds e1 e2
    split at h
    · rename_i c
      exact ⟨d, ds, view_dp w r1 e1 (SeqAt.canLay_of_shaped c.1), view_dp w r2 e2 (SeqAt.canLay_of_shaped c.2), c.1, c.2, Post.done (Rel := RelE K P) w h (by rw [Bool.true_xor]; exact Dq.bl _)⟩
    · exact h.elim
  · exact h.elim
theorem opd_inT (F : Fam X K N) : OpD X K T (compareOp .In) (gInT false) := by
  refine ⟨_, fun i => by have := op_inDT (X := X i) (F.hu i); rw [F.K i] at this; exact this, fun P S H m σ W x y v u Q w r1 r2 h => ?_⟩
  unfold gInT at h
  split at h
  · rename_i d ds e1 e2
    split at h
    · rename_i c
      exact ⟨d, ds, view_dp w r1 e1 (SeqAt.canLay_of_shaped c.1), view_dp w r2 e2 (SeqAt.canLay_of_shaped c.2), c.1, c.2, Post.done (Rel := RelE K P) w h (by rw [Bool.false_xor]; exact Dq.bl _)⟩
    · exact h.elim
  · exact h.elim
theorem opd_notInT (F : Fam X K N) : OpD X K T (compareOp .NotIn) (gInT true) := by
  refine ⟨_, fun i => by have := op_notInDT (X := X i) (F.hu i); rw [F.K i] at this; exact this, fun P S H m σ W x y v u Q w r1 r2 h => ?_⟩
  unfold gInT at h
  split at h
  · rename_i d ds e1 e2
    split at h
    · rename_i c
      exact ⟨d, ds, view_dp w r1 e1 (SeqAt.canLay_of_shaped c.1), view_dp w r2 e2 (SeqAt.canLay_of_shaped c.2), c.1, c.2, Post.done (Rel := RelE K P) w h (by rw [Bool.true_xor]; exact Dq.bl _)⟩
    · exact h.elim
  · exact h.elim
/-- one sign in a text -/
def gInS (neg : Bool) : EV → EV → Store → Res EV
  | .d (.str x), .d (.str y), S => match x.cps.toList with
    | [c] => .ok (.d (.bool (neg ^^ decide (c ∈ y.cps.toList)))) S
    | _ => .bad
  | _, _, _ => .bad
theorem str_one {x : Str} {c : Nat} (h : x.cps.toList = [c]) : x = ⟨#[c]⟩ := by
  cases x with
  | mk cps =>
    simp only at h
    have : cps = #[c] := by
      apply Array.ext'
      simpa using h
    rw [this]
theorem opd_inS : OpD X K T (compareOp .In) (gInS false) := by
  refine ⟨_, fun i => op_in_sign, fun P S H m σ W x y v u Q w r1 r2 h => ?_⟩
  unfold gInS at h
  split at h
  · split at h
    · rename_i c hc
      cases r1
      cases r2
      exact ⟨c, _, by rw [str_one hc], rfl, Post.done (Rel := RelE K P) w h (by rw [Bool.false_xor]; exact Dq.bl _)⟩
    · exact h.elim
  · exact h.elim
theorem opd_notInS : OpD X K T (compareOp .NotIn) (gInS true) := by
  refine ⟨_, fun i => op_notIn_sign, fun P S H m σ W x y v u Q w r1 r2 h => ?_⟩
  unfold gInS at h
  split at h
  · split at h
    · rename_i c hc
      cases r1
      cases r2
      exact ⟨c, _, by rw [str_one hc], rfl, Post.done (Rel := RelE K P) w h (by rw [Bool.true_xor]; exact Dq.bl _)⟩
    · exact h.elim
  · exact h.elim

/-! ### dicts with int and text keys -/
def keyOf : PyData → Option Key
  | .int i => some (.inl i)
  | .str x => some (.inr x)
  | _ => none
theorem keyOf_keyD (k : Key) : keyOf (keyD k) = some k := by cases k <;> rfl
theorem keyOf_kV {d : PyData} {k : Key} (h : keyOf d = some k) {v : V} (r : Dq H (LP P S m) v d) : v = kV k := by
  cases d <;> cases h <;> cases r <;> rfl
def kvs_ : List (PyData × PyData) → Option (List (Key × EV))
  | [] => some []
  | (k, x) :: r => match keyOf k, kvs_ r with
    | some k', some r' => some ((k', .d x) :: r')
    | _, _ => none
def dictOf (S : Store) : EV → Option (List (Key × EV))
  | .d (.dict ds) => kvs_ ds
  | .own n => match S[n]? with
    | some (.dct kvs) => some kvs
    | _ => none
  | _ => none
abbrev RpKV (K : PySem.W.Frag) (P : Addr → Prop) (S : Store) (H : Hp) (m : Nat → Addr) : List (Key × V) → List (Key × EV) → Prop := Paired fun p q => p.1 = q.1 ∧ Rp K P S H m p.2 q.2
theorem DqKV.rp : ∀ {vs : List (Key × V)} {ds : List (PyData × PyData)} {kvs : List (Key × EV)}, DqKV H (LP P S m) vs ds → kvs_ ds = some kvs → RpKV K P S H m vs kvs
  | _, _, kvs, .nil, h => by cases h; exact .nil
  | _, _, kvs, .cons (k := k) (ds := ds) q t, h => by
    simp only [kvs_, keyOf_keyD] at h
    cases e : kvs_ ds with
    | none => rw [e] at h; cases h
    | some r =>
      rw [e] at h
      cases h
      exact .cons ⟨rfl, q⟩ (DqKV.rp t e)
theorem dictOf_H {x : EV} {v : V} {kvs : List (Key × EV)} (w : Wd K P S H m T) (r : Rp K P S H m v x) (e : dictOf S x = some kvs) : ∃ a vs, v = .ref a ∧ H a = some (.dK vs) ∧ RpKV K P S H m vs kvs := by
  cases x with
  | d y =>
    cases y <;> simp only [dictOf] at e <;> try cases e
    cases r with
    | dct h _ q => exact ⟨_, _, rfl, h, q.rp e⟩
  | scr _ => cases e
  | own n =>
    obtain ⟨rfl, hn⟩ := r
    simp only [dictOf] at e
    cases hS : S[n]? with
    | none => rw [hS] at e; cases e
    | some o =>
      rw [hS] at e
      cases o with
      | gone => cases e
      | lst _ => cases e
      | dtp _ _ => cases e
      | dct ys =>
        cases e
        obtain ⟨vs, e1, r1⟩ := w.ok n _ hS
        exact ⟨_, vs, rfl, e1, r1⟩
def klook : List (Key × EV) → Key → Option EV
  | [], _ => none
  | (k', x) :: r, k => if k' = k then some x else klook r k
theorem klook_H : ∀ {vs : List (Key × V)} {kvs : List (Key × EV)} {k : Key}, RpKV K P S H m vs kvs → (klook kvs k = none ∧ valV vs k = none) ∨ ∃ x v, klook kvs k = some x ∧ valV vs k = some v ∧ Rp K P S H m v x
  | _, _, _, .nil => .inl ⟨rfl, rfl⟩
  | _, _, k, .cons (a := p) (b := q) (l₁ := r1) h t => by
    obtain ⟨k1, v1⟩ := p
    obtain ⟨k2, x2⟩ := q
    obtain ⟨h1, h2⟩ := h
    simp only at h1 h2
    subst h1
    by_cases e : k1 = k
    · refine .inr ⟨x2, v1, by simp [klook, e], ?_, h2⟩
      unfold valV
      rw [List.find?_cons_of_pos (by simp [e])]
      rfl
    · have ev : valV ((k1, v1) :: r1) k = valV r1 k := by
        unfold valV
        rw [List.find?_cons_of_neg (by simp [e])]
      rw [ev]
      simp only [klook, e, if_false]
      exact klook_H t
theorem op_dIn {X : Cx} (hu : X.A.units + 1 < cLine) : OpR X (compareOp .In) (fun x y H Q => ∃ a o, y = .ref a ∧ DGet H a x o ∧ Q (.bl o.isSome) H) := by
  intro pins s σ H x y v u Q I rx ry h
  obtain ⟨a, o, rfl, g, q⟩ := h
  obtain rfl : u = Value.ref a := ry
  exact d_in hu I g rx fun s3 I3 => ⟨.bl o.isSome, H, I3, rfl, q⟩
theorem op_dNotIn {X : Cx} (hu : X.A.units + 1 < cLine) : OpR X (compareOp .NotIn) (fun x y H Q => ∃ a o, y = .ref a ∧ DGet H a x o ∧ Q (.bl (!o.isSome)) H) := by
  intro pins s σ H x y v u Q I rx ry h
  obtain ⟨a, o, rfl, g, q⟩ := h
  obtain rfl : u = Value.ref a := ry
  exact d_notIn hu I g rx fun s3 I3 => ⟨.bl (!o.isSome), H, I3, rfl, q⟩
def gInD (neg : Bool) : EV → EV → Store → Res EV := fun x y S => match x, dictOf S y with
  | .d d, some kvs => match keyOf d with
    | some k => .ok (.d (.bool (neg ^^ (klook kvs k).isSome))) S
    | none => .bad
  | _, _ => .bad
theorem opd_inD (F : Fam X K N) : OpD X K T (compareOp .In) (gInD false) := by
  refine ⟨_, fun i => op_dIn (Nat.lt_of_le_of_lt (Nat.add_le_add_left (by decide) _) (F.hu i)), fun P S H m σ W x y v u Q w r1 r2 h => ?_⟩
  unfold gInD at h
  split at h
  · rename_i d kvs e1
    split at h
    · rename_i k e2
      obtain ⟨a, vs, rfl, h1, q1⟩ := dictOf_H w r2 e1
      obtain rfl := keyOf_kV e2 r1
      refine ⟨a, _, rfl, DGet.k h1, ?_⟩
      rcases klook_H (k := k) q1 with ⟨l1, l2⟩ | ⟨x, v, l1, l2, _⟩
      · rw [l2]
        rw [l1] at h
        exact Post.done (Rel := RelE K P) w h (Dq.bl _)
      · rw [l2]
        rw [l1] at h
        exact Post.done (Rel := RelE K P) w h (Dq.bl _)
    · exact h.elim
  · exact h.elim
theorem opd_notInD (F : Fam X K N) : OpD X K T (compareOp .NotIn) (gInD true) := by
  refine ⟨_, fun i => op_dNotIn (Nat.lt_of_le_of_lt (Nat.add_le_add_left (by decide) _) (F.hu i)), fun P S H m σ W x y v u Q w r1 r2 h => ?_⟩
  unfold gInD at h
  split at h
  · rename_i d kvs e1
    split at h
    · rename_i k e2
      obtain ⟨a, vs, rfl, h1, q1⟩ := dictOf_H w r2 e1
      obtain rfl := keyOf_kV e2 r1
      refine ⟨a, _, rfl, DGet.k h1, ?_⟩
      rcases klook_H (k := k) q1 with ⟨l1, l2⟩ | ⟨x, v, l1, l2, _⟩
      · rw [l2]
        rw [l1] at h
        exact Post.done (Rel := RelE K P) w h (Dq.bl _)
      · rw [l2]
        rw [l1] at h
        exact Post.done (Rel := RelE K P) w h (Dq.bl _)
    · exact h.elim
  · exact h.elim
def gIn (neg : Bool) : EV → EV → Store → Res EV := gOr (gInL neg) (gOr (gInT neg) (gOr (gInS neg) (gInD neg)))
theorem opd_in (F : Fam X K N) : OpD X K T (compareOp .In) (gIn false) := (opd_inL F).or ((opd_inT F).or (opd_inS.or (opd_inD F)))
theorem opd_notIn (F : Fam X K N) : OpD X K T (compareOp .NotIn) (gIn true) := (opd_notInL F).or ((opd_notInT F).or (opd_notInS.or (opd_notInD F)))

/-! ### tests -/
/-- what a value is as a test -/
def truth (S : Store) (x : EV) : Option Bool := match x with
  | .d .none => some false
  | .d (.bool b) => some b
  | .d (.int i) => some (i != 0)
  | .d (.str y) => if y.length ≤ sizeLine then some ((y.length : Int) != 0) else none
  | x => match itemsLS S x with
    | some xs => some !xs.isEmpty
    | none => match itemsT x with
      | some xs => some !xs.isEmpty
      | none => match dictOf S x with
        | some kvs => some !kvs.isEmpty
        | none => none
def truB (x : EV) (S : Store) : Res Bool := match truth S x with
  | some b => .ok b S
  | none => .bad
theorem paired_emp {α β : Type} {R : α → β → Prop} {l : List α} {r : List β} (h : Paired R l r) : l.isEmpty = r.isEmpty := by cases h <;> rfl
theorem truth_H {x : EV} {v : V} {b : Bool} (w : Wd K P S H m T) (r : Rp K P S H m v x) (e : truth S x = some b) : TruV K v H b := by
  unfold truth at e
  split at e
  · cases r; cases e; exact rfl
  · cases r; cases e; exact rfl
  · cases r; cases e; exact rfl
  · split at e
    · cases r; cases e; exact ⟨by assumption, rfl⟩
    · cases e
  · split at e
    · rename_i xs q
      cases e
      obtain ⟨a, vs, rfl, h, r1⟩ := itemsLS_H w r q
      exact .inl ⟨vs, h, by rw [paired_emp r1]⟩
    · split at e
      · rename_i xs q
        cases e
        obtain ⟨a, o, vs, rfl, h, _, r1⟩ := itemsT_H r q
        exact .inr (.inl ⟨vs, sqT_frz h, by rw [paired_emp r1]⟩)
      · split at e
        · rename_i kvs q
          cases e
          obtain ⟨a, vs, rfl, h, r1⟩ := dictOf_H w r q
          exact .inr (.inr ⟨vs, h, by rw [paired_emp r1]⟩)
        · cases e
def truF (f : EF) : BF := fun ρ S => (f ρ S).bind truB
theorem dt_truth (F : Fam X K N) (he : DE X K T W e f) (hi : ∀ i whole, isTrue e (X i).env whole = (do let v ← whole; standAt e.pos; holding [v] (truthy v)) := by intro _ _; rfl) : DT X K T W e (truF f) := by
  obtain ⟨t, pt, ht⟩ := he.ex
  refine ⟨fun σ H Q => t σ H fun x H' => ∃ k, TruV K x H' k ∧ Q k H', fun i => by have := pt_truth (pt i) (hi i); rw [F.K i] at this; exact this, fun P ρ S H m σ Q w er h => ?_⟩
  refine ht P ρ S H m σ _ w er (Post.step h fun S1 H1 m1 v x t1 w1 r1 h1 => ?_)
  unfold truB at h1
  split at h1
  · rename_i b q
    exact ⟨b, truth_H w1 r1 q, Post.done (Rel := RelB) w1 h1 rfl⟩
  · exact h1.elim
def notB (g : BF) : BF := fun ρ S => (g ρ S).bind fun b S1 => .ok (!b) S1
theorem dt_not (he : DT X K T W e ba) : DT X K T W (.UnaryOp .Not e pos) (notB ba) := by
  obtain ⟨t, pt, ht⟩ := he.ex
  refine ⟨tNot t, fun i => pt_not (pt i), fun P ρ S H m σ Q w er h => ?_⟩
  refine ht P ρ S H m σ _ w er (Post.step h fun S1 H1 m1 v x t1 w1 r1 h1 => ?_)
  exact Post.done (Rel := RelB) w1 h1 (by rw [show v = x from r1])
def andB (f g : BF) : BF := fun ρ S => (f ρ S).bind fun b S1 => if b = true then g ρ S1 else .ok false S1
def orB (f g : BF) : BF := fun ρ S => (f ρ S).bind fun b S1 => if b = true then .ok true S1 else g ρ S1
theorem dw_and1 (he : DT X K T W e ba) : DW X K T W (.BoolOp .And [e] pos) ba := by
  obtain ⟨t, pt, ht⟩ := he.ex
  exact ⟨t, fun i => pw_and1 (pt i), ht⟩
theorem dw_or1 (he : DT X K T W e ba) : DW X K T W (.BoolOp .Or [e] pos) ba := by
  obtain ⟨t, pt, ht⟩ := he.ex
  exact ⟨t, fun i => pw_or1 (pt i), ht⟩
theorem dw_and (ha : DT X K T W a ba) (hb : DW X K T W (.BoolOp .And (b :: es) pos) bb) : DW X K T W (.BoolOp .And (a :: b :: es) pos) (andB ba bb) := by
  obtain ⟨t, pt, ht⟩ := ha.ex
  obtain ⟨u, pu, hu⟩ := hb.ex
  refine ⟨tAnd t u, fun i => pw_and (pt i) (pu i), fun P ρ S H m σ Q w er h => ?_⟩
  refine ht P ρ S H m σ _ w er (Post.step h fun S1 H1 m1 v x t1 w1 r1 h1 => ?_)
  cases (show v = x from r1)
  cases v with
  | true => exact hu P ρ S1 H1 m1 σ _ w1 (er.to t1) h1
  | false => exact Post.done (Rel := RelB) w1 h1 rfl
theorem dw_or (ha : DT X K T W a ba) (hb : DW X K T W (.BoolOp .Or (b :: es) pos) bb) : DW X K T W (.BoolOp .Or (a :: b :: es) pos) (orB ba bb) := by
  obtain ⟨t, pt, ht⟩ := ha.ex
  obtain ⟨u, pu, hu⟩ := hb.ex
  refine ⟨tOr t u, fun i => pw_or (pt i) (pu i), fun P ρ S H m σ Q w er h => ?_⟩
  refine ht P ρ S H m σ _ w er (Post.step h fun S1 H1 m1 v x t1 w1 r1 h1 => ?_)
  cases (show v = x from r1)
  cases v with
  | false => exact hu P ρ S1 H1 m1 σ _ w1 (er.to t1) h1
  | true => exact Post.done (Rel := RelB) w1 h1 rfl
theorem DW.dt (h : DW X K T W e ba) : DT X K T W e ba := by
  obtain ⟨t, pt, ht⟩ := h.ex
  exact ⟨t, fun i => (pt i).pt, ht⟩
/-! and, or, not as values (bools) -/
def bolF (g : BF) : EF := fun ρ S => (g ρ S).bind fun b S1 => .ok (.d (.bool b)) S1
def andF (f g : EF) : EF := fun ρ S => (f ρ S).bind fun x S1 => (asB x S1).bind fun b S2 => if b = true then g ρ S2 else .ok (.d (.bool false)) S2
def orF (f g : EF) : EF := fun ρ S => (f ρ S).bind fun x S1 => (asB x S1).bind fun b S2 => if b = true then .ok (.d (.bool true)) S2 else g ρ S2
theorem asB_ok {x : EV} {v : V} {α β : Type} {RelC : Store → Hp → (Nat → Addr) → β → α → Prop} {k : Bool → Store → Res α} {Q : β → Hp → Prop} (r : Rp K P S H m v x)
    (h : Post K T P RelC S H m σ W ((asB x S).bind k) Q) : ∃ b, v = .bl b ∧ Post K T P RelC S H m σ W (k b S) Q := by
  unfold asB at h
  split at h
  · cases r
    exact ⟨_, rfl, h⟩
  · exact h.elim
theorem de_one {op : BoolOp} (he : DE X K T W e f) : DE X K T W (.BoolOp op [e] pos) f := by
  obtain ⟨t, pt, ht⟩ := he.ex
  exact ⟨t, fun i => pe_one (pt i), ht⟩
theorem de_and (ha : DE X K T W a fa) (hb : DE X K T W (.BoolOp .And (b :: es) pos) fb) : DE X K T W (.BoolOp .And (a :: b :: es) pos) (andF fa fb) := by
  obtain ⟨t, pt, ht⟩ := ha.ex
  obtain ⟨u, pu, hu⟩ := hb.ex
  refine ⟨tAndV t u, fun i => pe_and (pt i) (pu i), fun P ρ S H m σ Q w er h => ?_⟩
  refine ht P ρ S H m σ _ w er (Post.step h fun S1 H1 m1 v x t1 w1 r1 h1 => ?_)
  obtain ⟨k, rfl, h2⟩ := asB_ok r1 h1
  refine ⟨k, rfl, ?_⟩
  cases k with
  | true => exact hu P ρ S1 H1 m1 σ _ w1 (er.to t1) h2
  | false => exact Post.done (Rel := RelE K P) w1 h2 (Dq.bl _)
theorem de_or (ha : DE X K T W a fa) (hb : DE X K T W (.BoolOp .Or (b :: es) pos) fb) : DE X K T W (.BoolOp .Or (a :: b :: es) pos) (orF fa fb) := by
  obtain ⟨t, pt, ht⟩ := ha.ex
  obtain ⟨u, pu, hu⟩ := hb.ex
  refine ⟨tOrV t u, fun i => pe_or (pt i) (pu i), fun P ρ S H m σ Q w er h => ?_⟩
  refine ht P ρ S H m σ _ w er (Post.step h fun S1 H1 m1 v x t1 w1 r1 h1 => ?_)
  obtain ⟨k, rfl, h2⟩ := asB_ok r1 h1
  refine ⟨k, rfl, ?_⟩
  cases k with
  | false => exact hu P ρ S1 H1 m1 σ _ w1 (er.to t1) h2
  | true => exact Post.done (Rel := RelE K P) w1 h2 (Dq.bl _)
def notF (f : EF) : EF := fun ρ S => (f ρ S).bind fun x S1 => match truth S1 x with
  | some b => .ok (.d (.bool (!b))) S1
  | none => .bad
theorem de_not (F : Fam X K N) (he : DE X K T W e f) : DE X K T W (.UnaryOp .Not e pos) (notF f) := by
  obtain ⟨t, pt, ht⟩ := he.ex
  refine ⟨tNotT K t, fun i => by have := pe_notT (pos := pos) (pt i); rw [F.K i] at this; exact this, fun P ρ S H m σ Q w er h => ?_⟩
  refine ht P ρ S H m σ _ w er (Post.step h fun S1 H1 m1 v x t1 w1 r1 h1 => ?_)
  split at h1
  · rename_i b q
    exact ⟨b, truth_H w1 r1 q, Post.done (Rel := RelE K P) w1 h1 (Dq.bl _)⟩
  · exact h1.elim
def ifF (c : BF) (f g : EF) : EF := fun ρ S => (c ρ S).bind fun b S1 => if b = true then f ρ S1 else g ρ S1
theorem de_if (hc : DT X K T W c ba) (ha : DE X K T W a fa) (hb : DE X K T W b fb) : DE X K T W (.IfExp c a b pos) (ifF ba fa fb) := by
  obtain ⟨tc, pc, hC⟩ := hc.ex
  obtain ⟨t, pt, ht⟩ := ha.ex
  obtain ⟨u, pu, hu⟩ := hb.ex
  refine ⟨tIf tc t u, fun i => pe_ifExp (pc i) (pt i) (pu i), fun P ρ S H m σ Q w er h => ?_⟩
  refine hC P ρ S H m σ _ w er (Post.step h fun S1 H1 m1 v x t1 w1 r1 h1 => ?_)
  cases (show v = x from r1)
  cases v with
  | true => exact ht P ρ S1 H1 m1 σ _ w1 (er.to t1) h1
  | false => exact hu P ρ S1 H1 m1 σ _ w1 (er.to t1) h1
def negF (f : EF) : EF := fun ρ S => (f ρ S).bind fun x S1 => match x with
  | .d (.int i) => .ok (.d (.int (-i))) S1
  | _ => .bad
theorem de_neg (he : DE X K T W e f) : DE X K T W (.UnaryOp .USub e pos) (negF f) := by
  obtain ⟨t, pt, ht⟩ := he.ex
  refine ⟨_, fun i => pe_un un_neg (pt i), fun P ρ S H m σ Q w er h => ?_⟩
  refine ht P ρ S H m σ _ w er (Post.step h fun S1 H1 m1 v x t1 w1 r1 h1 => ?_)
  split at h1
  · cases r1
    exact ⟨_, rfl, Post.done (Rel := RelE K P) w1 h1 (Dq.int _)⟩
  · exact h1.elim
end
end Z
set_option maxRecDepth 100000
/-! Z5: subscripts, slices, calls of built-ins, methods. -/
namespace Z
open PySem PySem.Spec PyProof.Rows L2
section
variable {ι : Type} {X : ι → Cx} {K : PySem.W.Frag} {T : List Addr} {W : WX} {N : List Str}
variable {a b c e : Expr} {fa fb fc f : EF} {ba bb : BF} {pos : Pos} {es : List Expr} {fs : AF}
variable {P : Addr → Prop} {S : Store} {H : Hp} {m : Nat → Addr} {σ : L2.St}

/-! ### subscripts -/
theorem atI_rp {vs : List V} {xs : List EV} {i : Int} {x : EV} (r : RpL K P S H m vs xs) (h : atI xs i = some x) : ∃ v, atI vs i = some v ∧ Rp K P S H m v x := by
  unfold atI at h ⊢
  rw [r.length]
  cases q : ixN xs.length i with
  | none => rw [q] at h; cases h
  | some j =>
    rw [q] at h
    obtain ⟨v, e, r1⟩ := r.get (i := j) (e := x) h
    exact ⟨v, e, r1⟩
structure IxD (X : ι → Cx) (K : PySem.W.Frag) (T : List Addr) (g : EV → EV → Store → Res EV) : Prop where
  ex : ∃ r : R2, (∀ i, IxR (X i) r) ∧ ∀ P S H m σ W x y v u Q, Wd K P S H m T → Rp K P S H m v x → Rp K P S H m u y → Post K T P (RelE K P) S H m σ W (g x y S) Q → r v u H Q
theorem IxD.or {g g' : EV → EV → Store → Res EV} (o : IxD X K T g) (o' : IxD X K T g') : IxD X K T (gOr g g') := by
  obtain ⟨r, pr, hr⟩ := o.ex
  obtain ⟨r', pr', hr'⟩ := o'.ex
  refine ⟨fun x y H Q => r x y H Q ∨ r' x y H Q, fun i => IxR.or (pr i) (pr' i), fun P S H m σ W x y v u Q w r1 r2 h => ?_⟩
  unfold gOr Res.or at h
  split at h
  · exact .inr (hr' P S H m σ W x y v u Q w r1 r2 h)
  · exact .inl (hr P S H m σ W x y v u Q w r1 r2 h)
def optR {α : Type} (o : Option α) (S : Store) : Res α := match o with
  | some x => .ok x S
  | none => .bad
def gIxL : EV → EV → Store → Res EV := fun x y S => match itemsLS S x, y with
  | some xs, .d (.int i) => optR (atI xs i) S
  | _, _ => .bad
def gIxT : EV → EV → Store → Res EV := fun x y S => match itemsT x, y with
  | some xs, .d (.int i) => optR (atI xs i) S
  | _, _ => .bad
def gIxS : EV → EV → Store → Res EV := fun x y S => match x, y with
  | .d (.str z), .d (.int i) => if z.length ≤ sizeLine then match atI z.cps.toList i with
    | some c => .ok (.d (.str ⟨#[c]⟩)) S
    | none => .bad else .bad
  | _, _ => .bad
def gIxD : EV → EV → Store → Res EV := fun x y S => match dictOf S x, y with
  | some kvs, .d d => match keyOf d with
    | some k => optR (klook kvs k) S
    | none => .bad
  | _, _ => .bad
theorem ixd_l (F : Fam X K N) : IxD X K T gIxL := by
  refine ⟨rIxL K, fun i => by have := ix_list (X := X i); rw [F.K i] at this; exact this, fun P S H m σ W x y v u Q w r1 r2 h => ?_⟩
  unfold gIxL at h
  split at h
  · rename_i xs i e1
    obtain ⟨a, vs, rfl, hs, rl⟩ := itemsLS_H w r1 e1
    obtain rfl := rp_int r2
    unfold optR at h
    split at h
    · rename_i z q
      obtain ⟨v, e, rv⟩ := atI_rp rl q
      exact ⟨a, vs, _, v, rfl, rfl, hs, e, Post.done (Rel := RelE K P) w h rv⟩
    · exact h.elim
  · exact h.elim
theorem ixd_t (F : Fam X K N) : IxD X K T gIxT := by
  refine ⟨rIxT K, fun i => by have := ix_tup (X := X i); rw [F.K i] at this; exact this, fun P S H m σ W x y v u Q w r1 r2 h => ?_⟩
  unfold gIxT at h
  split at h
  · rename_i xs i e1
    obtain ⟨a, o, vs, rfl, hs, _, rl⟩ := itemsT_H r1 e1
    obtain rfl := rp_int r2
    unfold optR at h
    split at h
    · rename_i z q
      obtain ⟨v, e, rv⟩ := atI_rp rl q
      exact ⟨a, vs, _, v, rfl, rfl, sqT_frz hs, e, Post.done (Rel := RelE K P) w h rv⟩
    · exact h.elim
  · exact h.elim
theorem ixd_s : IxD X K T gIxS := by
  refine ⟨rIxS, fun i => ix_str, fun P S H m σ W x y v u Q w r1 r2 h => ?_⟩
  unfold gIxS at h
  split at h
  · split at h
    · rename_i hz
      split at h
      · rename_i c q
        obtain rfl := rp_int r2
        obtain rfl := rp_str r1
        exact ⟨_, _, c, rfl, rfl, hz, q, Post.done (Rel := RelE K P) w h (Dq.str _)⟩
      · exact h.elim
    · exact h.elim
  · exact h.elim
theorem ix_dict {X : Cx} (hu : X.A.units + 1 < cLine) : IxR X (fun x y H Q => ∃ a v, x = .ref a ∧ DGet H a y (some v) ∧ Q v H) := by
  intro value slice pins s σ H x y v u Q I rx ry h hs
  obtain ⟨a, z, rfl, g, q⟩ := h
  obtain rfl : v = Value.ref a := rx
  exact tail_any (dict_typeIs I g) PySem.F.slot_dict_getitem.lookup (d_getItem hu I g ry fun w' s3 I3 rw' => ⟨z, H, I3, rw', q⟩) hs
theorem ixd_d (F : Fam X K N) : IxD X K T gIxD := by
  refine ⟨_, fun i => ix_dict (Nat.lt_of_le_of_lt (Nat.add_le_add_left (by decide) _) (F.hu i)), fun P S H m σ W x y v u Q w r1 r2 h => ?_⟩
  unfold gIxD at h
  split at h
  · rename_i kvs d e1
    split at h
    · rename_i k e2
      obtain ⟨a, vs, rfl, h1, q1⟩ := dictOf_H w r1 e1
      obtain rfl := keyOf_kV e2 r2
      unfold optR at h
      split at h
      · rename_i z l
        rcases klook_H (k := k) q1 with ⟨l1, l2⟩ | ⟨x, v, l1, l2, rv⟩
        · rw [l] at l1; cases l1
        · rw [l] at l1; cases l1
          exact ⟨a, v, rfl, by rw [← l2]; exact DGet.k h1, Post.done (Rel := RelE K P) w h rv⟩
      · exact h.elim
    · exact h.elim
  · exact h.elim
def gIx : EV → EV → Store → Res EV := gOr gIxL (gOr gIxT (gOr gIxS gIxD))
theorem ixd (F : Fam X K N) : IxD X K T gIx := (ixd_l F).or ((ixd_t F).or (ixd_s.or (ixd_d F)))
def ixF (fa fb : EF) : EF := opF gIx fa fb
theorem de_ix (F : Fam X K N) (ha : DE X K T W a fa) (hb : DE X K T W b fb) (hs : PlainIx b := by intro _ _; rfl) : DE X K T W (.Subscript a b pos) (ixF fa fb) := by
  obtain ⟨r, pr, hr⟩ := (ixd (T := T) F).ex
  obtain ⟨ta, pa, hA⟩ := ha.ex
  obtain ⟨tb, pb, hB⟩ := hb.ex
  exact ⟨tOp r ta tb, fun i => pe_ix (pr i) (pa i) (pb i) hs, fun P ρ S H m σ Q w er h => op_run hA hB hr w er h⟩

/-! ### slices -/
abbrev RelO : Store → Hp → (Nat → Addr) → Option Int → Option Int → Prop := fun _ _ _ b x => b = x
structure DO (X : ι → Cx) (K : PySem.W.Frag) (T : List Addr) (W : WX) (e : Option Expr) (f : Rho → Store → Res (Option Int)) : Prop where
  ex : ∃ t : TO, (∀ i, PO (X i) e t) ∧ ∀ P ρ S H m σ Q, Wd K P S H m T → EnvR K P S H m ρ σ → Post K T P RelO S H m σ W (f ρ S) Q → t σ H Q
def noF : Rho → Store → Res (Option Int) := fun _ S => .ok none S
def someF (f : EF) : Rho → Store → Res (Option Int) := fun ρ S => (f ρ S).bind fun x S1 => match x with
  | .d (.int i) => .ok (some i) S1
  | _ => .bad
theorem do_none : DO X K T W none noF := ⟨tNoPart, fun _ => po_none, fun P ρ S H m σ Q w er h => Post.done (Rel := RelO) (v := none) w h rfl⟩
theorem do_some (he : DE X K T W e f) : DO X K T W (some e) (someF f) := by
  obtain ⟨t, pt, ht⟩ := he.ex
  refine ⟨_, fun i => po_some (pt i), fun P ρ S H m σ Q w er h => ?_⟩
  refine ht P ρ S H m σ _ w er (Post.step h fun S1 H1 m1 v x t1 w1 r1 h1 => ?_)
  split at h1
  · obtain rfl := rp_int r1
    exact ⟨_, rfl, Post.done (Rel := RelO) w1 h1 rfl⟩
  · exact h1.elim
def cutE {α : Type} (xs : List α) (lo hi : Option Int) : List α := (xs.drop (HT.sIx xs.length 0 lo)).take (HT.sIx xs.length xs.length hi - HT.sIx xs.length 0 lo)
theorem cut_rp {vs : List V} {xs : List EV} {lo hi : Option Int} (r : RpL K P S H m vs xs) : RpL K P S H m (cutV vs lo hi) (cutE xs lo hi) := by
  unfold cutV cutE
  rw [r.length]
  exact (r.drop _).take _
theorem cut_dq {vs : List V} {xs : List PyData} {lo hi : Option Int} (r : DqAll H (LP P S m) vs xs) : DqAll H (LP P S m) (cutV vs lo hi) (cutE xs lo hi) := by
  unfold cutV cutE
  rw [r.length]
  exact (r.drop _).take _
def gSl : EV → Option Int → Option Int → Store → Res EV := fun x lo hi S => match x with
  | .d (.tuple ds) => .ok (.d (.tuple (cutE ds lo hi))) S
  | .d (.str z) => if z.length ≤ sizeLine then .ok (.d (.str (cutS z lo hi))) S else .bad
  | x => match itemsLS S x with
    | some xs => mkLst (cutE xs lo hi) S
    | none => .bad
def slF (f : EF) (lo hi : Rho → Store → Res (Option Int)) : EF := fun ρ S => (f ρ S).bind fun x S1 => (lo ρ S1).bind fun l S2 => (hi ρ S2).bind fun u S3 => gSl x l u S3
theorem de_slice {lo hi : Option Expr} {fl fh : Rho → Store → Res (Option Int)} {p2 : Pos} (F : Fam X K N) (he : DE X K T W e f) (hl : DO X K T W lo fl) (hh : DO X K T W hi fh) :
    DE X K T W (.Subscript e (.Slice lo hi none p2) pos) (slF f fl fh) := by
  obtain ⟨t, pt, ht⟩ := he.ex
  obtain ⟨tl, pl, hL⟩ := hl.ex
  obtain ⟨th, ph, hH⟩ := hh.ex
  refine ⟨tSl (fun x lo hi H Q => rSlL K x lo hi H Q ∨ rSlF K x lo hi H Q ∨ rSlS x lo hi H Q) t tl th, fun i => pe_slice (SlR.or (by have := sl_list (X := X i); rw [F.K i] at this; exact this) (SlR.or (by have := sl_tupF (X := X i); rw [F.K i] at this; exact this) sl_str)) (pt i) (pl i) (ph i),
    fun P ρ S H m σ Q w er h => ?_⟩
  refine ht P ρ S H m σ _ w er (Post.step h fun S1 H1 m1 v x t1 w1 r1 h1 => ?_)
  refine hL P ρ S1 H1 m1 σ _ w1 (er.to t1) (Post.step h1 fun S2 H2 m2 l l' t2 w2 r2 h2 => ?_)
  refine hH P ρ S2 H2 m2 σ _ w2 ((er.to t1).to t2) (Post.step h2 fun S3 H3 m3 u u' t3 w3 r3 h3 => ?_)
  obtain rfl : l = l' := r2
  obtain rfl : u = u' := r3
  have rx := t3.rp (t2.rp r1)
  unfold gSl at h3
  split at h3
  · rename_i ds
    cases rx with
    | tup g d n q =>
      rename_i a o vs
      refine .inr (.inl ⟨_, vs, rfl, sqT_frz g, fun z => ?_, fun _ => newT_post w3 (cut_dq q) h3⟩)
      have e : cutE ds l u = ds := by
        unfold cutE
        rw [← q.length, z.1, z.2]
        simp [q.length]
      rw [e] at h3
      exact Post.done (Rel := RelE K P) w3 h3 (Dq.tup g d n q)
  · split at h3
    · rename_i hz
      obtain rfl := rp_str rx
      exact .inr (.inr ⟨_, rfl, hz, Post.done (Rel := RelE K P) w3 h3 (Dq.str _)⟩)
    · exact h3.elim
  · split at h3
    · rename_i xs q
      obtain ⟨a, vs, rfl, hs, rl⟩ := itemsLS_H w3 rx q
      obtain ⟨_, hn⟩ := post_lst w3 (cut_rp (lo := l) (hi := u) rl) h3
      exact .inl ⟨a, vs, rfl, hs, hn⟩
    · exact h3.elim
/-- xs[::-1] of a list -/
def revF (f : EF) : EF := fun ρ S => (f ρ S).bind fun x S1 => match itemsLS S1 x with
  | some xs => mkLst xs.reverse S1
  | none => .bad
theorem de_revL {k : Nat} {p1 p2 p3 : Pos} (F : Fam X K N) (he : DE X K T W e f) : DE X K T W (.Subscript e (.Slice none none (some (.UnaryOp .USub (.Constant (.int 1) k p1) p2)) p3) pos) (revF f) := by
  obtain ⟨t, pt, ht⟩ := he.ex
  refine ⟨tRevL K t, fun i => by have := pe_revL (k := k) (p1 := p1) (p2 := p2) (p3 := p3) (pos := pos) (pt i); rw [F.K i] at this; exact this, fun P ρ S H m σ Q w er h => ?_⟩
  refine ht P ρ S H m σ _ w er (Post.step h fun S1 H1 m1 v x t1 w1 r1 h1 => ?_)
  split at h1
  · rename_i xs q
    obtain ⟨a, vs, rfl, hs, rl⟩ := itemsLS_H w1 r1 q
    obtain ⟨_, hn⟩ := post_lst w1 rl.reverse h1
    exact ⟨a, vs, rfl, hs, hn⟩
  · exact h1.elim

/-! ### calls of built-ins -/
structure CallD (X : ι → Cx) (K : PySem.W.Frag) (T : List Addr) (G : Value) (g : List EV → Store → Res EV) : Prop where
  ex : ∃ r : List V → Hp → VK → Prop, (∀ i, CallR (X i) G r) ∧ ∀ P S H m σ W xs vs Q, Wd K P S H m T → RpL K P S H m vs xs → Post K T P (RelE K P) S H m σ W (g xs S) Q → r vs H Q
def cOr (g g' : List EV → Store → Res EV) : List EV → Store → Res EV := fun x S => (g x S).or (g' x S)
theorem CallD.or {G : Value} {g g' : List EV → Store → Res EV} (o : CallD X K T G g) (o' : CallD X K T G g') : CallD X K T G (cOr g g') := by
  obtain ⟨r, pr, hr⟩ := o.ex
  obtain ⟨r', pr', hr'⟩ := o'.ex
  refine ⟨fun x H Q => r x H Q ∨ r' x H Q, fun i => CallR.or (pr i) (pr' i), fun P S H m σ W x v Q w r1 h => ?_⟩
  unfold cOr Res.or at h
  split at h
  · exact .inr (hr' P S H m σ W x v Q w r1 h)
  · exact .inl (hr P S H m σ W x v Q w r1 h)
def callF (g : List EV → Store → Res EV) (fs : AF) : EF := fun ρ S => (fs ρ S).bind g
theorem de_callB {id : String} {x : Str} {p : Pos} {g : List EV → Store → Res EV} (hc : CallD X K T (.builtin id) g) (hm : ∀ i, (X i).mg x = none) (hv : bootBuiltins x = some (.builtin id)) (ha : DA X K T W (e :: es) fs) (hg : ∀ i, Gl (X i) x := by intro _; rfl)
    (hn : x ≠ "__name__" := by decide) (hdb : (x == ("__debug__" : Str)) = false := by decide) (he : ∀ i, starEach (e :: es) (X i).env = (false, eval e (X i).env) :: starEach es (X i).env := by intro _; rfl)
    (hpl : ∀ i, (backTo pos (starEach es (X i).env)).any (·.1) = false := by intro _; rfl) : DE X K T W (.Call (.Name x p) (e :: es) [] pos) (callF g fs) := by
  obtain ⟨r, pr, hr⟩ := hc.ex
  obtain ⟨t, pt, ht⟩ := ha.ex
  refine ⟨tCB r t, fun i => pe_callB (pr i) (hg i) (hm i) hv (pt i) hn hdb (he i) (hpl i), fun P ρ S H m σ Q w er h => ?_⟩
  exact ht P ρ S H m σ _ w er (Post.step h fun S1 H1 m1 v x t1 w1 r1 h1 => hr P S1 H1 m1 σ W x v Q w1 r1 h1)
theorem de_callTy {id : String} {x : Str} {p : Pos} {g : List EV → Store → Res EV} (hc : CallD X K T (.type id) g) (hm : ∀ i, (X i).mg x = none) (hv : bootBuiltins x = some (.type id)) (ha : DA X K T W (e :: es) fs) (hg : ∀ i, Gl (X i) x := by intro _; rfl)
    (hn : x ≠ "__name__" := by decide) (hdb : (x == ("__debug__" : Str)) = false := by decide) (he : ∀ i, starEach (e :: es) (X i).env = (false, eval e (X i).env) :: starEach es (X i).env := by intro _; rfl)
    (hpl : ∀ i, (backTo pos (starEach es (X i).env)).any (·.1) = false := by intro _; rfl) : DE X K T W (.Call (.Name x p) (e :: es) [] pos) (callF g fs) := by
  obtain ⟨r, pr, hr⟩ := hc.ex
  obtain ⟨t, pt, ht⟩ := ha.ex
  refine ⟨tCB r t, fun i => pe_callTy (pr i) (hg i) (hm i) hv (pt i) hn hdb (he i) (hpl i), fun P ρ S H m σ Q w er h => ?_⟩
  exact ht P ρ S H m σ _ w er (Post.step h fun S1 H1 m1 v x t1 w1 r1 h1 => hr P S1 H1 m1 σ W x v Q w1 r1 h1)
theorem rpl_nil {vs : List V} (r : RpL K P S H m vs []) : vs = [] := by cases r; rfl
theorem rpl_one {vs : List V} {x : EV} (r : RpL K P S H m vs [x]) : ∃ v, vs = [v] ∧ Rp K P S H m v x := by
  cases r with
  | cons a t => cases t; exact ⟨_, rfl, a⟩
theorem rpl_two {vs : List V} {x y : EV} (r : RpL K P S H m vs [x, y]) : ∃ v u, vs = [v, u] ∧ Rp K P S H m v x ∧ Rp K P S H m u y := by
  cases r with
  | cons a t =>
    obtain ⟨u, rfl, b⟩ := rpl_one t
    exact ⟨_, _, rfl, a, b⟩
/-- len -/
def gLen : List EV → Store → Res EV := fun xs S => match xs with
  | [x] => match x with
    | .d (.str z) => if z.length ≤ sizeLine then .ok (.d (.int z.length)) S else .bad
    | x => match itemsLS S x with
      | some ys => .ok (.d (.int ys.length)) S
      | none => match itemsT x with
        | some ys => .ok (.d (.int ys.length)) S
        | none => match dictOf S x with
          | some ys => .ok (.d (.int ys.length)) S
          | none => .bad
  | _ => .bad
theorem paired_len {α β : Type} {R : α → β → Prop} {l : List α} {r : List β} (h : Paired R l r) : l.length = r.length := h.length
theorem cd_len (F : Fam X K N) : CallD X K T (.builtin "len") gLen := by
  refine ⟨fun vs H Q => (∃ x n, vs = [x] ∧ LenV K x H n ∧ Q (.int n) H) ∨ ∃ a kvs, vs = [V.ref a] ∧ H a = some (.dK kvs) ∧ Q (.int kvs.length) H, fun i => CallR.or (by have := call_len (X := X i); rw [F.K i] at this; exact this) call_lenD, fun P S H m σ W xs vs Q w r h => ?_⟩
  unfold gLen at h
  split at h
  · obtain ⟨v, rfl, rv⟩ := rpl_one r
    split at h
    · split at h
      · obtain rfl := rp_str rv
        exact .inl ⟨_, _, rfl, ⟨by assumption, rfl⟩, Post.done (Rel := RelE K P) w h (Dq.int _)⟩
      · exact h.elim
    · split at h
      · rename_i ys q
        obtain ⟨a, us, rfl, hs, rl⟩ := itemsLS_H w rv q
        exact .inl ⟨_, _, rfl, .inl ⟨us, hs, rfl⟩, by rw [rl.length]; exact Post.done (Rel := RelE K P) w h (Dq.int _)⟩
      · split at h
        · rename_i ys q
          obtain ⟨a, o, us, rfl, hs, _, rl⟩ := itemsT_H rv q
          exact .inl ⟨_, _, rfl, .inr ⟨us, sqT_frz hs, rfl⟩, by rw [rl.length]; exact Post.done (Rel := RelE K P) w h (Dq.int _)⟩
        · split at h
          · rename_i ys q
            obtain ⟨a, us, rfl, hs, rl⟩ := dictOf_H w rv q
            exact .inr ⟨_, _, rfl, hs, by rw [paired_len rl]; exact Post.done (Rel := RelE K P) w h (Dq.int _)⟩
          · exact h.elim
  · exact h.elim
def gInt : List EV → Store → Res EV
  | [.d (.int i)], S => .ok (.d (.int i)) S
  | [.d (.bool k)], S => .ok (.d (.int (if k then 1 else 0))) S
  | _, _ => .bad
theorem cd_int : CallD X K T (.type "int") gInt := by
  refine ⟨_, fun i => call_int1, fun P S H m σ W xs vs Q w r h => ?_⟩
  unfold gInt at h
  split at h
  · obtain ⟨v, rfl, rv⟩ := rpl_one r
    obtain rfl := rp_int rv
    exact .inl ⟨_, rfl, Post.done (Rel := RelE K P) w h (Dq.int _)⟩
  · obtain ⟨v, rfl, rv⟩ := rpl_one r
    obtain rfl := rp_bl rv
    exact .inr ⟨_, rfl, Post.done (Rel := RelE K P) w h (Dq.int _)⟩
  · exact h.elim
def gAbs : List EV → Store → Res EV
  | [.d (.int i)], S => .ok (.d (.int (if i < 0 then -i else i))) S
  | _, _ => .bad
theorem cd_abs : CallD X K T (.builtin "abs") gAbs := by
  refine ⟨_, fun i => call_abs, fun P S H m σ W xs vs Q w r h => ?_⟩
  unfold gAbs at h
  split at h
  · obtain ⟨v, rfl, rv⟩ := rpl_one r
    obtain rfl := rp_int rv
    exact ⟨_, rfl, Post.done (Rel := RelE K P) w h (Dq.int _)⟩
  · exact h.elim
/-- list(x) of a list, a tuple -/
def gListW (mk : List EV → Store → Res EV) : List EV → Store → Res EV := fun xs S => match xs with
  | [x] => match itemsLS S x with
    | some ys => mk ys S
    | none => match itemsT x with
      | some ys => mk ys S
      | none => .bad
  | _ => .bad
theorem cd_listW {mk : List EV → Store → Res EV} (F : Fam X K N) (hmk : ∀ {P : Addr → Prop} {S : Store} {H : Hp} {m : Nat → Addr} {σ : L2.St} {W : WX} {xs : List EV} {vs : List V} {Q : VK}, Wd K P S H m T → RpL K P S H m vs xs → Post K T P (RelE K P) S H m σ W (mk xs S) Q → vs.length ≤ sizeLine ∧ ∀ p, H p = none → Q (.ref p) (upd H p (.lst vs))) :
    CallD X K T (.type "list") (gListW mk) := by
  refine ⟨fun xs H Q => ∃ p ys, xs = [.ref p] ∧ (SqL K H p ys ∨ SqT K H p ys) ∧ ∀ l, H l = none → Q (.ref l) (upd H l (.lst ys)), fun i => by have := call_list_of (X := X i); rw [F.K i] at this; exact this, fun P S H m σ W xs vs Q w r h => ?_⟩
  unfold gListW at h
  split at h
  · obtain ⟨v, rfl, rv⟩ := rpl_one r
    split at h
    · rename_i ys q
      obtain ⟨a, us, rfl, hs, rl⟩ := itemsLS_H w rv q
      exact ⟨a, us, rfl, .inl hs, (hmk w rl h).2⟩
    · split at h
      · rename_i ys q
        obtain ⟨a, o, us, rfl, hs, _, rl⟩ := itemsT_H rv q
        exact ⟨a, us, rfl, .inr (sqT_frz hs), (hmk w rl h).2⟩
      · exact h.elim
  · exact h.elim
def gList : List EV → Store → Res EV := gListW mkLst
def gListO : List EV → Store → Res EV := gListW mkOwn
theorem cd_list (F : Fam X K N) : CallD X K T (.type "list") gList := cd_listW F post_lst
theorem cd_listO (F : Fam X K N) : CallD X K T (.type "list") gListO := cd_listW F post_own
def gTuple : List EV → Store → Res EV := fun xs S => match xs with
  | [x] => match itemsLS S x with
    | some ys => mkTup ys S
    | none => match itemsT x with
      | some ys => .ok x S
      | none => .bad
  | _ => .bad
theorem cd_tuple (F : Fam X K N) : CallD X K T (.type "tuple") gTuple := by
  refine ⟨fun xs H Q => ∃ p ys, xs = [.ref p] ∧ ((SqL K H p ys ∧ NewT H Q ys) ∨ (SqT K H p ys ∧ Q (.ref p) H)), fun i => by have := call_tupleF (X := X i); rw [F.K i] at this; exact this, fun P S H m σ W xs vs Q w r h => ?_⟩
  unfold gTuple at h
  split at h
  · obtain ⟨v, rfl, rv⟩ := rpl_one r
    split at h
    · rename_i ys q
      obtain ⟨a, us, rfl, hs, rl⟩ := itemsLS_H w rv q
      exact ⟨a, us, rfl, .inl ⟨hs, (post_tup w rl h).2⟩⟩
    · split at h
      · rename_i ys q
        obtain ⟨a, o, us, e, hs, _, rl⟩ := itemsT_H rv q
        subst e
        exact ⟨a, us, rfl, .inr ⟨sqT_frz hs, Post.done (Rel := RelE K P) w h rv⟩⟩
      · exact h.elim
  · exact h.elim
/-- sum of a list of ints -/
def intsOf : List EV → Option (List Int)
  | [] => some []
  | .d (.int i) :: r => (intsOf r).map (i :: ·)
  | _ :: _ => none
theorem intsOf_rp : ∀ {xs : List EV} {ns : List Int} {vs : List V}, intsOf xs = some ns → RpL K P S H m vs xs → vs = ns.map V.int
  | [], ns, vs, h, r => by cases h; cases r; rfl
  | .d (.int i) :: t, ns, vs, h, r => by
    have h' : (intsOf t).map (i :: ·) = some ns := h
    cases q : intsOf t with
    | none => rw [q] at h'; cases h'
    | some es =>
      rw [q] at h'
      cases h'
      cases r with
      | cons r1 r2 =>
        rw [rp_int r1, intsOf_rp q r2]
        rfl
  | .d .none :: _, _, _, h, _ => by cases h
  | .d (.bool _) :: _, _, _, h, _ => by cases h
  | .d (.str _) :: _, _, _, h, _ => by cases h
  | .d (.list _) :: _, _, _, h, _ => by cases h
  | .d (.tuple _) :: _, _, _, h, _ => by cases h
  | .d (.dict _) :: _, _, _, h, _ => by cases h
  | .own _ :: _, _, _, h, _ => by cases h
  | .scr _ :: _, _, _, h, _ => by cases h
/-- sum; of a list (a tuple is not served here) -/
def gSumL : List EV → Store → Res EV := fun xs S => match xs with
  | [x] => match itemsLS S x with
    | some ys => match intsOf ys with
      | some ns => .ok (.d (.int ns.sum)) S
      | none => .bad
    | none => .bad
  | _ => .bad
theorem cd_sumL (F : Fam X K N) : CallD X K T (.builtin "sum") gSumL := by
  refine ⟨rSum K, fun i => by have := cr_sum (X := X i) (F.calm i); rw [F.K i] at this; exact this, fun P S H m σ W xs vs Q w r h => ?_⟩
  unfold gSumL at h
  split at h
  · obtain ⟨v, rfl, rv⟩ := rpl_one r
    split at h
    · rename_i ys q
      split at h
      · rename_i ns q2
        obtain ⟨a, us, rfl, hs, rl⟩ := itemsLS_H w rv q
        have e := intsOf_rp q2 rl
        subst e
        exact ⟨a, ns, rfl, hs, Post.done (Rel := RelE K P) w h (Dq.int _)⟩
      · exact h.elim
    · exact h.elim
  · exact h.elim
theorem log_lt {n : Nat} (c : n < 2 ^ 1900) : n.log2 < 1920 := by
  by_cases z : n = 0
  · rw [z]; decide
  · exact Nat.lt_trans ((Nat.log2_lt z).mpr c) (by decide)
/-- str of an int -/
def gStrI : List EV → Store → Res EV
  | [.d (.int i)], S => if i.natAbs < 2 ^ 1900 then .ok (.d (.str (toString i))) S else .bad
  | _, _ => .bad
theorem cd_strI : CallD X K T (.type "str") gStrI := by
  refine ⟨_, fun i => call_str_int, fun P S H m σ W xs vs Q w r h => ?_⟩
  unfold gStrI at h
  split at h
  · split at h
    · rename_i c
      obtain ⟨v, rfl, rv⟩ := rpl_one r
      obtain rfl := rp_int rv
      exact ⟨_, rfl, log_lt c, Post.done (Rel := RelE K P) w h (Dq.str _)⟩
    · exact h.elim
  · exact h.elim

/-! ### isinstance(x, T) -/
def tyName : EV → Option String
  | .d .none => some "NoneType"
  | .d (.bool _) => some "bool"
  | .d (.int _) => some "int"
  | .d (.str _) => some "str"
  | .d (.list _) => some "list"
  | .d (.tuple _) => some "tuple"
  | .d (.dict _) => some "dict"
  | _ => none
theorem tyName_H {x : EV} {v : V} {n : String} (r : Rp K P S H m v x) (e : tyName x = some n) : TyX K H v (.type n) := by
  cases x with
  | own _ => cases e
  | scr _ => cases e
  | d y =>
    cases y <;> cases e
    · cases r; exact .base .non
    · cases r; exact .base (.bl _)
    · cases r; exact .base (.int _)
    · cases r; exact .base (.str _)
    · cases r with
      | lst h _ _ => exact .base (.lst h)
    · cases r with
      | tup h _ _ _ => exact .fTuple h
    · cases r with
      | dct h _ _ => exact .base (.dK h)
def isiF (f : EF) (t : String) : EF := fun ρ S => (f ρ S).bind fun x S1 => match tyName x with
  | some n => match kitB n t with
    | some b => .ok (.d (.bool b)) S1
    | none => .bad
  | none => .bad
theorem de_isi {ty : Str} {t : String} {p p2 : Pos} (F : Fam X K N) (hm : ∀ i, (X i).mg "isinstance" = none) (ht : ∀ i, (X i).mg ty = none) (hv : bootBuiltins ty = some (.type t)) (he : DE X K T W e f)
    (hg : ∀ i, Gl (X i) "isinstance" := by intro _; rfl) (hg2 : ∀ i, Gl (X i) ty := by intro _; rfl) (hn : ty ≠ "__name__" := by decide) (hdb : (ty == ("__debug__" : Str)) = false := by decide)
    (st : ∀ i, starEach [e, .Name ty p2] (X i).env = (false, eval e (X i).env) :: starEach [.Name ty p2] (X i).env := by intro _; rfl) (st2 : ∀ i, starEach [.Name ty p2] (X i).env = (false, eval (.Name ty p2) (X i).env) :: starEach [] (X i).env := by intro _; rfl)
    (hpl : ∀ i, (backTo pos (starEach [.Name ty p2] (X i).env)).any (·.1) = false := by intro _; rfl) :
    DE X K T W (.Call (.Name "isinstance" p) [e, .Name ty p2] [] pos) (isiF f t) := by
  obtain ⟨te, pt, hte⟩ := he.ex
  refine ⟨_, fun i => pe_callB (r := rIsi K) (t := tCons te (tCons (tC (.ty t)) tNil)) (by have := call_isi (X := X i); rw [F.K i] at this; exact this) (hg i) (hm i) boot_isinstance (pa_cons (pt i) (pa_cons (pe_bltn (hg2 i) (ht i) hv rfl hn hdb) pa_nil (st2 i)) (st i)) (by decide) (by decide) (st i) (hpl i), fun P ρ S H m σ Q w er h => ?_⟩
  refine hte P ρ S H m σ _ w er (Post.step h fun S1 H1 m1 v x t1 w1 r1 h1 => ?_)
  split at h1
  · rename_i n e1
    split at h1
    · rename_i b e2
      exact ⟨v, _, _, _, b, rfl, .ty t, tyName_H r1 e1, kit_ty e2, Post.done (Rel := RelE K P) w1 h1 (Dq.bl _)⟩
    · exact h1.elim
  · exact h1.elim
end
end Z
set_option maxRecDepth 100000
/-! Z6: targets, statements. -/
namespace Z
open PySem PySem.Spec PyProof.Rows L2

/-- what a loop hands out: a value, or a tuple that only the target sees -/
inductive Itm where
  | one (x : EV)
  | row (xs : List EV)
section
variable (K : PySem.W.Frag) (P : Addr → Prop) (S : Store) (H : Hp) (m : Nat → Addr)
def RpI (v : V) : Itm → Prop
  | .one x => Rp K P S H m v x
  | .row xs => ∃ a vs, v = .ref a ∧ SqT K H a vs ∧ RpL K P S H m vs xs
abbrev RpIL : List V → List Itm → Prop := Paired (RpI K P S H m)
end
abbrev GF := Itm → Rho → Option Rho
abbrev GsF := List Itm → Rho → Option Rho
inductive RS where
  | bad
  | nx (ρ : Rho) (S : Store)
  | ret (x : EV) (S : Store)
  | brk (ρ : Rho) (S : Store)
  | cont (ρ : Rho) (S : Store)
  | exc (e : Exn) (ρ : Rho) (S : Store)
abbrev SF := Rho → Store → RS
def Res.toS {α : Type} (ρ : Rho) (r : Res α) (k : α → Store → RS) : RS := match r with
  | .bad => .bad
  | .ok a S => k a S
  | .exc e S => .exc e ρ S
def PostS (K : PySem.W.Frag) (T : List Addr) (P : Addr → Prop) (S : Store) (H : Hp) (m : Nat → Addr) (W : WX) (r : RS) (D : Ends) : Prop :=
  match r with
  | .bad => False
  | .nx ρ S' => ∀ H' m' σ', To P S H m S' H' m' → Wd K P S' H' m' T → EnvR K P S' H' m' ρ σ' → D.nx σ' H'
  | .ret x S' => ∀ H' m' v, To P S H m S' H' m' → Wd K P S' H' m' T → Rp K P S' H' m' v x → D.rt v H'
  | .brk ρ S' => ∀ H' m' σ', To P S H m S' H' m' → Wd K P S' H' m' T → EnvR K P S' H' m' ρ σ' → D.bk σ' H'
  | .cont ρ S' => ∀ H' m' σ', To P S H m S' H' m' → Wd K P S' H' m' T → EnvR K P S' H' m' ρ σ' → D.ct σ' H'
  | .exc e ρ S' => ∀ H' m' c d σ', To P S H m S' H' m' → Wd K P S' H' m' T → EnvR K P S' H' m' ρ σ' → ExR P S' H' m' e c d → W c d σ' H'
section
variable {α β : Type} {K : PySem.W.Frag} {T : List Addr} {P : Addr → Prop} {S S1 : Store} {H H1 : Hp} {m m1 : Nat → Addr} {σ : L2.St} {ρ : Rho} {W : WX} {D : Ends}
variable {Rel : Store → Hp → (Nat → Addr) → β → α → Prop}
theorem PostS.after (t : To P S H m S1 H1 m1) {r : RS} (h : PostS K T P S H m W r D) : PostS K T P S1 H1 m1 W r D := by
  cases r with
  | bad => exact h
  | nx ρ S' => exact fun H' m' v a w r => h H' m' v (t.trans a) w r
  | ret ρ S' => exact fun H' m' v a w r => h H' m' v (t.trans a) w r
  | brk ρ S' => exact fun H' m' v a w r => h H' m' v (t.trans a) w r
  | cont ρ S' => exact fun H' m' v a w r => h H' m' v (t.trans a) w r
  | exc e ρ S' => exact fun H' m' c d v a w r => h H' m' c d v (t.trans a) w r
theorem PostS.step {r : Res α} {k : α → Store → RS} {Q1 : β → Hp → Prop} (er : EnvR K P S H m ρ σ) (h : PostS K T P S H m W (r.toS ρ k) D)
    (j : ∀ S1 H1 m1 v x, To P S H m S1 H1 m1 → Wd K P S1 H1 m1 T → Rel S1 H1 m1 v x → PostS K T P S1 H1 m1 W (k x S1) D → Q1 v H1) : Post K T P Rel S H m σ W r Q1 := by
  cases r with
  | bad => exact h
  | ok x S' => exact fun H' m' v a w r => j S' H' m' v x a w r (PostS.after a h)
  | exc e S' => exact fun H' m' c d a w x => h H' m' c d σ a w (er.to a) x
theorem PostS.nx (w : Wd K P S H m T) (er : EnvR K P S H m ρ σ) (h : PostS K T P S H m W (.nx ρ S) D) : D.nx σ H := h H m σ To.refl w er
theorem RpI.to {v : V} (a : To P S H m S1 H1 m1) (e : H1 = H) : ∀ {x : Itm}, RpI K P S H m v x → RpI K P S1 H1 m1 v x
  | .one _, h => a.rp h
  | .row _, ⟨b, vs, e1, h, r⟩ => ⟨b, vs, e1, by rw [e]; exact h, a.rpL r⟩
theorem rpil_one {vs : List V} : ∀ {xs : List EV}, RpL K P S H m vs xs → RpIL K P S H m vs (xs.map .one) := by
  intro xs h
  induction h with
  | nil => exact .nil
  | cons a b ih => exact .cons a ih
end

/-! ### targets -/
/-- unchanged but at ws -/
def Same (ws : List Nat) (σ σ' : L2.St) : Prop := σ'.length = σ.length ∧ ∀ j, j ∉ ws → σ'[j]? = σ[j]?
theorem Same.refl {ws : List Nat} {σ : L2.St} : Same ws σ σ := ⟨rfl, fun _ _ => rfl⟩
theorem Same.trans {ws vs : List Nat} {a b c : L2.St} (h : Same ws a b) (k : Same vs b c) : Same (ws ++ vs) a c :=
  ⟨k.1.trans h.1, fun j hj => (k.2 j fun z => hj (List.mem_append_right _ z)).trans (h.2 j fun z => hj (List.mem_append_left _ z))⟩
theorem wipe_get (σ : L2.St) (i : Nat) : ∀ vs : List Nat, (L2.wipe σ vs)[i]? = if i ∈ vs ∧ i < σ.length then some none else σ[i]?
  | [] => by simp [L2.wipe]
  | v :: vs => by
    unfold L2.wipe
    by_cases e : v = i
    · subst e
      by_cases hl : v < σ.length
      · rw [List.getElem?_set_self (by rw [L2.wipe_length]; exact hl), if_pos ⟨List.mem_cons_self, hl⟩]
      · rw [List.getElem?_eq_none (by rw [List.length_set, L2.wipe_length]; omega), if_neg (fun z => hl z.2), List.getElem?_eq_none (by omega)]
    · rw [List.getElem?_set_ne e, wipe_get σ i vs]
      have : (i ∈ v :: vs) ↔ i ∈ vs := by
        simp only [List.mem_cons]
        exact ⟨fun z => z.elim (fun q => absurd q.symm e) id, .inr⟩
      simp only [this]
theorem Same.wipe {ws vs : List Nat} {σ σ' : L2.St} (h : Same ws σ σ') (hs : ∀ j ∈ ws, j ∈ vs) : L2.wipe σ' vs = L2.wipe σ vs := by
  apply List.ext_getElem?
  intro i
  rw [wipe_get, wipe_get, h.1]
  by_cases z : i ∈ vs
  · by_cases hl : i < σ.length
    · rw [if_pos ⟨z, hl⟩, if_pos ⟨z, hl⟩]
    · rw [if_neg (fun q => hl q.2), if_neg (fun q => hl q.2), List.getElem?_eq_none (by rw [h.1]; omega), List.getElem?_eq_none (by omega)]
  · rw [if_neg (fun q => z q.1), if_neg (fun q => z q.1)]
    exact h.2 i fun q => z (hs i q)
section
variable {ι : Type} (X : ι → Cx) (K : PySem.W.Frag) (T : List Addr) (W : WX)
structure DG (tg : Expr) (ws : List Nat) (g : GF) : Prop where
  ex : ∃ t : TG, (∀ i, PG (X i) tg t) ∧ ∀ P ρ ρ' S H m σ v it (Q : L2.St → Hp → Prop), Wd K P S H m T → EnvR K P S H m ρ σ → RpI K P S H m v it → g it ρ = some ρ' → (∀ σ', EnvR K P S H m ρ' σ' → Same ws σ σ' → Q σ' H) → t v σ H Q
structure DGs (tg : List Expr) (ws : List Nat) (g : GsF) : Prop where
  ex : ∃ t : TGs, (∀ i, PGs (X i) tg t) ∧ ∀ P ρ ρ' S H m σ v it (Q : L2.St → Hp → Prop), Wd K P S H m T → EnvR K P S H m ρ σ → RpIL K P S H m v it → g it ρ = some ρ' → (∀ σ', EnvR K P S H m ρ' σ' → Same ws σ σ' → Q σ' H) → t v σ H Q
structure DS (st : Stmt) (f : SF) : Prop where
  ex : ∃ t : TS, (∀ i, PS (X i) st t) ∧ ∀ P ρ S H m σ D, Wd K P S H m T → EnvR K P S H m ρ σ → PostS K T P S H m W (f ρ S) D → t D σ H
structure DSs (st : List Stmt) (f : SF) : Prop where
  ex : ∃ t : TS, (∀ i, PSs (X i) st t) ∧ ∀ P ρ S H m σ D, Wd K P S H m T → EnvR K P S H m ρ σ → PostS K T P S H m W (f ρ S) D → t D σ H
end
section
variable {ι : Type} {X : ι → Cx} {K : PySem.W.Frag} {T : List Addr} {W : WX} {N : List Str}
variable {a b c e tg : Expr} {fa fb fc f : EF} {ba bb : BF} {pos : Pos} {es tgs : List Expr} {fs : AF} {g : GF} {gs : GsF} {ws us : List Nat} {n : Nat}
variable {P : Addr → Prop} {S : Store} {H : Hp} {m : Nat → Addr} {σ : L2.St}
def nameG (i : Nat) : GF := fun it ρ => match it with
  | .one x => some (ρ.set i (some x))
  | .row _ => none
theorem same_set {i : Nat} {v : Option V} : Same [i] σ (σ.set i v) := ⟨List.length_set, fun j hj => List.getElem?_set_ne fun e => hj (by rw [e]; exact List.mem_singleton.mpr rfl)⟩
theorem dg_name (F : Fam X K N) (i : Nat) {x : Str} (hN : N[i]? = some x := by rfl) (hx : ∀ j, Loc (X j).env.scope x := by intro _; first | exact Or.inl rfl | exact Or.inr rfl)
    (hf : ∀ j, (X j).fn x = true ∨ (X j).env.scope.names.lookup x = some .local := by intro _; first | exact Or.inl rfl | exact Or.inr rfl) : DG X K T (.Name x pos) [i] (nameG i) := by
  refine ⟨gName i, fun j => pg_name (by rw [F.N j]; exact F.nd) (by rw [F.N j]; exact hN) (hx j) (hf j), fun P ρ ρ' S H m σ v it Q w er r e h => ?_⟩
  unfold nameG at e
  cases it with
  | one x =>
    cases e
    exact h _ (er.set i r) same_set
  | row _ => cases e
def nilG : GsF := fun its ρ => match its with
  | [] => some ρ
  | _ :: _ => none
def consG (g : GF) (gs : GsF) : GsF := fun its ρ => match its with
  | [] => none
  | it :: r => (g it ρ).bind fun ρ1 => gs r ρ1
theorem dgs_nil : DGs X K T [] [] nilG := by
  refine ⟨gNil, fun _ => pgs_nil, fun P ρ ρ' S H m σ v it Q w er r e h => ?_⟩
  unfold nilG at e
  cases it with
  | nil =>
    cases r
    cases e
    exact ⟨rfl, h _ er Same.refl⟩
  | cons _ _ => cases e
theorem dgs_cons (hg : DG X K T tg ws g) (hs : DGs X K T tgs us gs) (st : ∀ i, (assignEach (tg :: tgs) (X i).env).map (·.2) = assign tg (X i).env :: (assignEach tgs (X i).env).map (·.2) := by intro _; rfl) : DGs X K T (tg :: tgs) (ws ++ us) (consG g gs) := by
  obtain ⟨t, pt, ht⟩ := hg.ex
  obtain ⟨u, pu, hu⟩ := hs.ex
  refine ⟨gCons t u, fun i => pgs_cons (pt i) (pu i) (st i), fun P ρ ρ' S H m σ v it Q w er r e h => ?_⟩
  unfold consG at e
  cases it with
  | nil => cases e
  | cons it r2 =>
    cases r with
    | cons r3 r4 =>
      cases q : g it ρ with
      | none => simp only [q] at e; cases e
      | some ρ1 =>
        simp only [q] at e
        refine ⟨_, _, rfl, ht P ρ ρ1 S H m σ _ _ _ w er r3 q fun σ1 e1 s1 => ?_⟩
        exact hu P ρ1 ρ' S H m σ1 _ _ _ w e1 r4 e fun σ2 e2 s2 => h σ2 e2 (s1.trans s2)
/-- the parts of a tuple, a list that is unpacked -/
def partsT : Itm → Option (List EV)
  | .row xs => some xs
  | .one x => itemsT x
def tupG (n : Nat) (gs : GsF) : GF := fun it ρ => match partsT it with
  | some xs => if xs.length = n then gs (xs.map .one) ρ else none
  | none => match it with
    | .one (.d (.list ds)) => if ds.length = n then gs ((evs ds).map .one) ρ else none
    | _ => none
theorem PG.or {X : Cx} {tg : Expr} {t u : TG} (h : PG X tg t) (k : PG X tg u) : PG X tg (fun v σ H Q => t v σ H Q ∨ u v σ H Q) :=
  ⟨fun pins s σ H v w Q I r q => q.elim (h.run pins s σ H v w Q I r) (k.run pins s σ H v w Q I r)⟩
theorem dg_tup (F : Fam X K N) {k : Nat} (n : Nat) (hs : DGs X K T tgs us gs) (hn : ∀ i, (assignEach tgs (X i).env).length = n := by intro _; rfl) (hst : ∀ i, (assignEach tgs (X i).env).findIdx? (·.1) = none := by intro _; rfl) :
    DG X K T (.Tuple tgs k pos) us (tupG n gs) := by
  obtain ⟨u, pu, hu⟩ := hs.ex
  refine ⟨fun v σ H Q => gTup K n u v σ H Q ∨ gUnl K n u v σ H Q, fun i => PG.or (by have := pg_tup (k := k) (pos := pos) (F.calm i) (pu i) (hn i) (hst i); rw [F.K i] at this; exact this) (by have := pg_unl (k := k) (pos := pos) (F.calm i) (pu i) (hn i) (hst i); rw [F.K i] at this; exact this),
    fun P ρ ρ' S H m σ v it Q w er r e h => ?_⟩
  unfold tupG at e
  cases q : partsT it with
  | some xs =>
    simp only [q] at e
    split at e
    · rename_i hl
      cases it with
      | row ys =>
        cases q
        obtain ⟨a, vs, rfl, hq, rl⟩ := r
        exact .inl ⟨a, vs, rfl, hq, by rw [rl.length]; exact hl, hu P ρ ρ' S H m σ _ _ _ w er (rpil_one rl) e h⟩
      | one x =>
        obtain ⟨a, o, vs, rfl, hq, _, rl⟩ := itemsT_H (S := S) (m := m) r q
        exact .inl ⟨a, vs, rfl, sqT_frz hq, by rw [rl.length]; exact hl, hu P ρ ρ' S H m σ _ _ _ w er (rpil_one rl) e h⟩
    · cases e
  | none =>
    simp only [q] at e
    split at e
    · rename_i ds _
      split at e
      · rename_i hl
        cases r with
        | lst g n d => exact .inr ⟨_, _, rfl, .of g, by rw [d.length]; exact hl, hu P ρ ρ' S H m σ _ _ _ w er (rpil_one d.rpL) e h⟩
      · cases e
    · cases e
end
end Z
set_option maxRecDepth 100000
/-! Z7: statements, what a loop walks. -/
namespace Z
open PySem PySem.Spec PyProof.Rows L2
section
variable {ι : Type} {X : ι → Cx} {K : PySem.W.Frag} {T : List Addr} {W : WX} {N : List Str}
variable {a b c e tg : Expr} {fa fb fc f : EF} {ba bb : BF} {pos : Pos} {es tgs : List Expr} {fs : AF} {g : GF} {gs : GsF} {ws us : List Nat} {n : Nat}
variable {P : Addr → Prop} {S : Store} {H : Hp} {m : Nat → Addr} {σ : L2.St} {st : Stmt} {sts : List Stmt} {sf sg sh : SF}

/-! ### blocks -/
def nxF : SF := fun ρ S => .nx ρ S
def seqF (f g : SF) : SF := fun ρ S => match f ρ S with
  | .nx ρ1 S1 => g ρ1 S1
  | r => r
theorem dss_nil : DSs X K T W [] nxF := ⟨tNext, fun _ => pss_nil, fun P ρ S H m σ D w er h => PostS.nx w er h⟩
theorem dss_cons (h1 : DS X K T W st sf) (h2 : DSs X K T W sts sg) : DSs X K T W (st :: sts) (seqF sf sg) := by
  obtain ⟨t, pt, ht⟩ := h1.ex
  obtain ⟨u, pu, hu⟩ := h2.ex
  refine ⟨tSeq t u, fun i => pss_cons (pt i) (pu i), fun P ρ S H m σ D w er h => ?_⟩
  refine ht P ρ S H m σ _ w er ?_
  unfold seqF at h
  cases q : sf ρ S with
  | nx ρ1 S1 =>
    rw [q] at h
    exact fun H' m' σ' t1 w1 e1 => hu P ρ1 S1 H' m' σ' D w1 e1 (PostS.after t1 h)
  | bad => rw [q] at h; exact h
  | ret x S1 => rw [q] at h; exact h
  | brk x S1 => rw [q] at h; exact h
  | cont x S1 => rw [q] at h; exact h
  | exc x ρ S1 => rw [q] at h; exact h
theorem dss_one (h1 : DS X K T W st sf) : DSs X K T W [st] sf := by
  obtain ⟨t, pt, ht⟩ := h1.ex
  exact ⟨t, fun i => pss_one (pt i), ht⟩
theorem ds_pass : DS X K T W (.Pass pos) nxF := ⟨tNext, fun _ => ps_pass, fun P ρ S H m σ D w er h => PostS.nx w er h⟩
def brkF : SF := fun ρ S => .brk ρ S
def contF : SF := fun ρ S => .cont ρ S
theorem ds_break : DS X K T W (.Break pos) brkF := ⟨tBreak, fun _ => ps_break, fun P ρ S H m σ D w er h => h H m σ To.refl w er⟩
theorem ds_continue : DS X K T W (.Continue pos) contF := ⟨tCont, fun _ => ps_continue, fun P ρ S H m σ D w er h => h H m σ To.refl w er⟩
def exprF (f : EF) : SF := fun ρ S => (f ρ S).toS ρ fun _ S1 => .nx ρ S1
theorem ds_expr (he : DE X K T W e f) (hs : ∀ i, swapsWith e none pos.line (X i).env = pure false := by intro _; rfl) : DS X K T W (.Expr e pos) (exprF f) := by
  obtain ⟨t, pt, ht⟩ := he.ex
  refine ⟨tDrop t, fun i => ps_expr (pt i) (hs i), fun P ρ S H m σ D w er h => ?_⟩
  exact ht P ρ S H m σ _ w er (PostS.step er h fun S1 H1 m1 v x t1 w1 r1 h1 => PostS.nx w1 (er.to t1) h1)
def retF (f : EF) : SF := fun ρ S => (f ρ S).toS ρ fun x S1 => .ret x S1
theorem ds_ret (he : DE X K T W e f) : DS X K T W (.Return (some e) pos) (retF f) := by
  obtain ⟨t, pt, ht⟩ := he.ex
  refine ⟨tRet t, fun i => ps_ret (pt i), fun P ρ S H m σ D w er h => ?_⟩
  exact ht P ρ S H m σ _ w er (PostS.step er h fun S1 H1 m1 v x t1 w1 r1 h1 => h1 H1 m1 v To.refl w1 r1)
def retNF : SF := fun _ S => .ret (.d .none) S
theorem ds_retN : DS X K T W (.Return none pos) retNF := ⟨tRetN, fun _ => ps_retN, fun P ρ S H m σ D w er h => h H m .non To.refl w Dq.non⟩
def ifSF (c : BF) (f g : SF) : SF := fun ρ S => (c ρ S).toS ρ fun b S1 => if b = true then f ρ S1 else g ρ S1
theorem ds_if {sa sb : List Stmt} (hc : DT X K T W c ba) (ha : DSs X K T W sa sf) (hb : DSs X K T W sb sg) : DS X K T W (.If c sa sb pos) (ifSF ba sf sg) := by
  obtain ⟨tc, pc, hC⟩ := hc.ex
  obtain ⟨t, pt, ht⟩ := ha.ex
  obtain ⟨u, pu, hu⟩ := hb.ex
  refine ⟨tIfS tc t u, fun i => ps_if (pc i) (pt i) (pu i), fun P ρ S H m σ D w er h => ?_⟩
  refine hC P ρ S H m σ _ w er (PostS.step er h fun S1 H1 m1 v x t1 w1 r1 h1 => ?_)
  obtain rfl : v = x := r1
  split
  · rename_i hv; rw [if_pos hv] at h1; exact ht P ρ S1 H1 m1 σ D w1 (er.to t1) h1
  · rename_i hv; rw [if_neg hv] at h1; exact hu P ρ S1 H1 m1 σ D w1 (er.to t1) h1
/-- name = value -/
def setF (i : Nat) (f : EF) : SF := fun ρ S => (f ρ S).toS ρ fun x S1 => .nx (ρ.set i (some x)) S1
theorem ds_set (F : Fam X K N) (i : Nat) {x : Str} {p : Pos} (he : DE X K T W e f) (hN : N[i]? = some x := by rfl) (hx : ∀ j, Loc (X j).env.scope x := by intro _; first | exact Or.inl rfl | exact Or.inr rfl)
    (hs : ∀ j, swapsWith e (some (.Name x p)) pos.line (X j).env = pure false := by intro _; rfl) (hf : ∀ j, (X j).fn x = true ∨ (X j).env.scope.names.lookup x = some .local := by intro _; first | exact Or.inl rfl | exact Or.inr rfl) :
    DS X K T W (.Assign [.Name x p] e pos) (setF i f) := by
  obtain ⟨t, pt, ht⟩ := he.ex
  refine ⟨tAsg t (gName i), fun j => ps_set (by rw [F.N j]; exact F.nd) (by rw [F.N j]; exact hN) (hx j) (pt j) (hs j) (hf j), fun P ρ S H m σ D w er h => ?_⟩
  exact ht P ρ S H m σ _ w er (PostS.step er h fun S1 H1 m1 v x t1 w1 r1 h1 => PostS.nx w1 ((er.to t1).set i r1) h1)
/-- target = value -/
def asgF (g : GF) (f : EF) : SF := fun ρ S => (f ρ S).toS ρ fun x S1 => match g (.one x) ρ with
  | some ρ1 => .nx ρ1 S1
  | none => .bad
theorem ds_asg (hg : DG X K T tg ws g) (he : DE X K T W e f) (hs : ∀ i, swapsWithSole [tg] e pos.line (X i).env = pure false := by intro _; rfl) (hw : ∀ i, swappedStores [tg] e (X i).env = pure none := by intro _; rfl)
    (h1 : ∀ i, (assignEach [tg] (X i).env).map (·.2) = [assign tg (X i).env] := by intro _; rfl) : DS X K T W (.Assign [tg] e pos) (asgF g f) := by
  obtain ⟨t, pt, ht⟩ := he.ex
  obtain ⟨u, pu, hu⟩ := hg.ex
  refine ⟨tAsg t u, fun j => ps_asg (pt j) (pu j) (hs j) (hw j) (h1 j), fun P ρ S H m σ D w er h => ?_⟩
  refine ht P ρ S H m σ _ w er (PostS.step er h fun S1 H1 m1 v x t1 w1 r1 h1 => ?_)
  cases q : g (.one x) ρ with
  | none => simp only [q] at h1; exact h1.elim
  | some ρ1 =>
    simp only [q] at h1
    exact hu P ρ ρ1 S1 H1 m1 σ v (.one x) _ w1 (er.to t1) r1 q fun σ' e1 _ => PostS.nx w1 e1 h1
/-- a, b = x, y -/
def parF (i j : Nat) (fs : AF) : SF := fun ρ S => (fs ρ S).toS ρ fun xs S1 => match xs with
  | [x, y] => .nx ((ρ.set i (some x)).set j (some y)) S1
  | _ => .bad
theorem ds_par (F : Fam X K N) (i j : Nat) {x y : Str} {px py pt : Pos} {kt k2 pt2} (ha : DA X K T W [a, b] fs) (hN : N[i]? = some x := by rfl) (hM : N[j]? = some y := by rfl) (hij : i ≠ j := by decide)
    (hx : ∀ k, (X k).env.scope.names.lookup x = some .local := by intro _; rfl) (hy : ∀ k, (X k).env.scope.names.lookup y = some .local := by intro _; rfl)
    (hw : ∀ k, swappedStores [.Tuple [.Name x px, .Name y py] kt pt] (.Tuple [a, b] k2 pt2) (X k).env = pure (some [x, y]) := by intro _; rfl)
    (hs : ∀ k, swapsWithSole [.Tuple [.Name x px, .Name y py] kt pt] (.Tuple [a, b] k2 pt2) pos.line (X k).env = pure false := by intro _; rfl) :
    DS X K T W (.Assign [.Tuple [.Name x px, .Name y py] kt pt] (.Tuple [a, b] k2 pt2) pos) (parF i j fs) := by
  obtain ⟨t, pt, ht⟩ := ha.ex
  refine ⟨tPar i j t, fun k => ps_par (F.calm k) (by rw [F.N k]; exact F.nd) (by rw [F.N k]; exact hN) (by rw [F.N k]; exact hM) hij (hx k) (hy k) (pt k) (hw k) (hs k), fun P ρ S H m σ D w er h => ?_⟩
  refine ht P ρ S H m σ _ w er (PostS.step er h fun S1 H1 m1 v xs t1 w1 r1 h1 => ?_)
  split at h1
  · obtain ⟨v1, v2, rfl, ra, rb⟩ := rpl_two r1
    exact ⟨v1, v2, rfl, PostS.nx w1 (((er.to t1).set i ra).set j rb) h1⟩
  · exact h1.elim
/-- a, b, c = x, y, z -/
def par3F (i j l : Nat) (fs : AF) : SF := fun ρ S => (fs ρ S).toS ρ fun xs S1 => match xs with
  | [x, y, z] => .nx (((ρ.set i (some x)).set j (some y)).set l (some z)) S1
  | _ => .bad
theorem rpl_three {vs : List V} {x y z : EV} (r : RpL K P S H m vs [x, y, z]) : ∃ v u t, vs = [v, u, t] ∧ Rp K P S H m v x ∧ Rp K P S H m u y ∧ Rp K P S H m t z := by
  cases r with
  | cons a t =>
    obtain ⟨u, t, rfl, b, c⟩ := rpl_two t
    exact ⟨_, _, _, rfl, a, b, c⟩
/-- name op= e, by ints -/
def augF (i : Nat) (g : EV → EV → Store → Res EV) (f : EF) : SF := fun ρ S => match ρ[i]? with
  | some (some x) => (f ρ S).toS ρ fun y S1 => (g x y S1).toS ρ fun z S2 => .nx (ρ.set i (some z)) S2
  | _ => .bad
structure IpD (X : ι → Cx) (K : PySem.W.Frag) (T : List Addr) (op : Operator) (g : EV → EV → Store → Res EV) : Prop where
  ex : ∃ r : TIp, (∀ i, PIp (X i) op r) ∧ ∀ P S H m σ W x y v u Q, Wd K P S H m T → Rp K P S H m v x → Rp K P S H m u y → Post K T P (RelE K P) S H m σ W (g x y S) Q → r v u H Q
theorem ipd_int {op : Operator} {f : Int → Int → Int} (o : ∀ i, PIp (X i) op (ipI f)) : IpD X K T op (gI CTrue f) := by
  refine ⟨_, o, fun P S H m σ W x y v u Q w r1 r2 h => ?_⟩
  unfold gI at h
  split at h
  · split at h
    · cases r1
      cases r2
      exact ⟨_, _, rfl, rfl, Post.done (Rel := RelE K P) w h (Dq.int _)⟩
    · exact h.elim
  · exact h.elim
theorem ipd_add : IpD X K T .Add (gI CTrue fun i j => i + j) := ipd_int fun _ => ip_add
theorem ipd_sub : IpD X K T .Sub (gI CTrue fun i j => i - j) := ipd_int fun _ => ip_sub
theorem ds_aug (F : Fam X K N) {op : Operator} {g : EV → EV → Store → Res EV} (i : Nat) {x : Str} {p : Pos} (ho : IpD X K T op g) (he : DE X K T W e f) (hN : N[i]? = some x := by rfl) (hx : ∀ j, Loc (X j).env.scope x := by intro _; first | exact Or.inl rfl | exact Or.inr rfl)
    (hf : ∀ j, (X j).fn x = true ∨ (X j).env.scope.names.lookup x = some .local := by intro _; first | exact Or.inl rfl | exact Or.inr rfl) : DS X K T W (.AugAssign (.Name x p) op e pos) (augF i g f) := by
  obtain ⟨t, pt, ht⟩ := he.ex
  obtain ⟨r, pr, hr⟩ := ho.ex
  refine ⟨tAug i t r, fun j => ps_aug (by rw [F.N j]; exact F.nd) (by rw [F.N j]; exact hN) (hx j) (pt j) (pr j) (hf j), fun P ρ S H m σ D w er h => ?_⟩
  unfold augF at h
  split at h
  · rename_i x q
    obtain ⟨v, hv, rv⟩ := er.2 i x q
    refine ⟨v, hv, ht P ρ S H m σ _ w er (PostS.step er h fun S1 H1 m1 u y t1 w1 r1 h1 => ?_)⟩
    refine hr P S1 H1 m1 σ W x y v u _ w1 (t1.rp rv) r1 (PostS.step (er.to t1) h1 fun S2 H2 m2 u2 z t2 w2 r2 h2 => ?_)
    exact PostS.nx w2 (((er.to t1).to t2).set i r2) h2
  · exact h.elim

/-! ### a changing list is written -/
/-- o[i] = x, for a list of the store -/
def putL (x i y : EV) (S : Store) : Option Store := match x, i with
  | .own n, .d (.int k) => match S[n]? with
    | some (.lst xs) => match ixN xs.length k with
      | some j => some (S.set n (.lst (xs.set j y)))
      | none => none
    | _ => none
  | _, _ => none
theorem putL_H {x i y : EV} {S' : Store} {o v u : V} {Q : Hp → Prop} (w : Wd K P S H m T) (ro : Rp K P S H m o x) (ri : Rp K P S H m v i) (ry : Rp K P S H m u y) (e : putL x i y S = some S')
    (h : ∀ H', To P S H m S' H' m → Wd K P S' H' m T → Q H') : rSetL o v u H Q := by
  unfold putL at e
  split at e
  · rename_i n k
    split at e
    · rename_i xs q
      split at e
      · rename_i j qj
        cases e
        obtain ⟨rfl, _⟩ := ro
        obtain rfl := rp_int ri
        obtain ⟨vs, hv, rv⟩ := w.ok n _ q
        exact ⟨_, vs, k, j, rfl, rfl, hv, by rw [rv.length]; exact qj, h _ (To.write w q) (w.write q (rv.set ry j))⟩
      · cases e
    · cases e
  · cases e
def setIxF (fo fi f : EF) : SF := fun ρ S => (f ρ S).toS ρ fun y S1 => (fo ρ S1).toS ρ fun x S2 => (fi ρ S2).toS ρ fun i S3 => match putL x i y S3 with
  | some S4 => .nx ρ S4
  | none => .bad
theorem ds_setIx {o i : Expr} {fo fi : EF} {p : Pos} (ho : DE X K T W o fo) (hi : DE X K T W i fi) (he : DE X K T W e f)
    (ha : ∀ j v, assign (.Subscript o i p) (X j).env v = (do
      let ov ← holding [v] (eval o (X j).env)
      let iv ← holding [v, ov] (eval i (X j).env)
      standAt p
      holding [v, ov, iv] (setItem ov iv v)
      release [v, ov, iv] []) := by intro _ _; rfl)
    (hs : ∀ j, swapsWithSole [.Subscript o i p] e pos.line (X j).env = pure false := by intro _; rfl) (hw : ∀ j, swappedStores [.Subscript o i p] e (X j).env = pure none := by intro _; rfl)
    (h1 : ∀ j, (assignEach [.Subscript o i p] (X j).env).map (·.2) = [assign (.Subscript o i p) (X j).env] := by intro _; rfl) : DS X K T W (.Assign [.Subscript o i p] e pos) (setIxF fo fi f) := by
  obtain ⟨t, pt, ht⟩ := he.ex
  obtain ⟨to, po, hO⟩ := ho.ex
  obtain ⟨ti, pi, hI⟩ := hi.ex
  refine ⟨tAsg t (gSub to ti rSetL), fun j => ps_asg (pt j) (pg_sub (po j) (pi j) set_list (ha j)) (hs j) (hw j) (h1 j), fun P ρ S H m σ D w er h => ?_⟩
  refine ht P ρ S H m σ _ w er (PostS.step er h fun S1 H1 m1 u y t1 w1 r1 h1 => ?_)
  refine hO P ρ S1 H1 m1 σ _ w1 (er.to t1) (PostS.step (er.to t1) h1 fun S2 H2 m2 o x t2 w2 r2 h2 => ?_)
  refine hI P ρ S2 H2 m2 σ _ w2 ((er.to t1).to t2) (PostS.step ((er.to t1).to t2) h2 fun S3 H3 m3 v i t3 w3 r3 h3 => ?_)
  cases q : putL x i y S3 with
  | none => simp only [q] at h3; exact h3.elim
  | some S4 =>
    simp only [q] at h3
    exact putL_H w3 (t3.rp r2) r3 (t3.rp (t2.rp r1)) q fun H' t4 w4 => PostS.nx w4 ((((er.to t1).to t2).to t3).to t4) (PostS.after t4 h3)
/-- o[i] op= e -/
theorem pget_list {X : Cx} : PGet X (rIxL X.K) := by
  intro pins s σ H x y v u Q I rx ry h
  obtain ⟨p, xs, i, z, rfl, rfl, hq, he, q⟩ := h
  cases rx
  obtain ⟨t, rfl⟩ := ry
  obtain ⟨its, r, pl, hz⟩ := I.list hq
  obtain ⟨j, h1, h2, h3, h4, h5⟩ := atI_get he
  obtain ⟨w, ew, rw'⟩ := r.get h2
  have hl := r.length
  have hn := line63
  have fin : EP X pins σ Q w s := ⟨z, H, I, rw', q⟩
  by_cases h0 : 0 ≤ i
  · have hj : i.toNat = j := by
      rw [seqIndex_of h0 h5] at h1
      exact Option.some.inj h1
    exact wpAny_getItem_list pl.isList h0 (by omega) (by rw [hj]; simpa using ew) fin
  · have hj : (i + (its.toArray.size : Int)).toNat = j := by
      rw [seqIndex_neg (by omega) h4] at h1
      rw [List.size_toArray, ← hl]
      exact Option.some.inj h1
    exact wpAny_getItem_list_neg pl.isList (by omega) (by rw [List.size_toArray] <;> omega) (by omega) (by rw [hj]; simpa using ew) fin
def augIxF (fo fi : EF) (g : EV → EV → Store → Res EV) (f : EF) : SF := fun ρ S => (fo ρ S).toS ρ fun x S1 => (fi ρ S1).toS ρ fun i S2 => (gIxL x i S2).toS ρ fun z S3 => (f ρ S3).toS ρ fun y S4 => (g z y S4).toS ρ fun r S5 => match putL x i r S5 with
  | some S6 => .nx ρ S6
  | none => .bad
theorem ixd_l_run (F : Fam X K N) {P : Addr → Prop} {S : Store} {H : Hp} {m : Nat → Addr} {σ : L2.St} {W : WX} {x y : EV} {v u : V} {Q : VK} (w : Wd K P S H m T) (r1 : Rp K P S H m v x) (r2 : Rp K P S H m u y) (h : Post K T P (RelE K P) S H m σ W (gIxL x y S) Q) : rIxL K v u H Q := by
  unfold gIxL at h
  split at h
  · rename_i xs i e1
    obtain ⟨a, vs, rfl, hs, rl⟩ := itemsLS_H w r1 e1
    obtain rfl := rp_int r2
    unfold optR at h
    split at h
    · rename_i z q
      obtain ⟨v, e, rv⟩ := atI_rp rl q
      exact ⟨a, vs, _, v, rfl, rfl, hs, e, Post.done (Rel := RelE K P) w h rv⟩
    · exact h.elim
  · exact h.elim
theorem ds_augIx (F : Fam X K N) {o i : Expr} {fo fi : EF} {p : Pos} {op : Operator} {g : EV → EV → Store → Res EV} (hp : IpD X K T op g) (ho : DE X K T W o fo) (hi : DE X K T W i fi) (he : DE X K T W e f)
    (ha : ∀ ov iv new, augStore i ov iv new = (do holding [new, ov, iv] (setItem ov iv new); release [new, ov, iv] []; pure .next) := by intros; rfl) : DS X K T W (.AugAssign (.Subscript o i p) op e pos) (augIxF fo fi g f) := by
  obtain ⟨t, pt, ht⟩ := he.ex
  obtain ⟨to, po, hO⟩ := ho.ex
  obtain ⟨ti, pi, hI⟩ := hi.ex
  obtain ⟨r, pr, hr⟩ := hp.ex
  refine ⟨tAugS to ti t (rIxL K) r rSetL, fun j => ps_augS (po j) (pi j) (by have := pget_list (X := X j); rw [F.K j] at this; exact this) (pt j) (pr j) set_list ha, fun P ρ S H m σ D w er h => ?_⟩
  refine hO P ρ S H m σ _ w er (PostS.step er h fun S1 H1 m1 o x t1 w1 r1 h1 => ?_)
  have er1 := er.to t1
  refine hI P ρ S1 H1 m1 σ _ w1 er1 (PostS.step er1 h1 fun S2 H2 m2 i iv t2 w2 r2 h2 => ?_)
  have er2 := er1.to t2
  refine ixd_l_run (W := W) (σ := σ) F w2 (t2.rp r1) r2 (PostS.step er2 h2 fun S3 H3 m3 z zv t3 w3 r3 h3 => ?_)
  have er3 := er2.to t3
  refine ht P ρ S3 H3 m3 σ _ w3 er3 (PostS.step er3 h3 fun S4 H4 m4 y yv t4 w4 r4 h4 => ?_)
  have er4 := er3.to t4
  refine hr P S4 H4 m4 σ W _ _ _ _ _ w4 (t4.rp r3) r4 (PostS.step er4 h4 fun S5 H5 m5 q qv t5 w5 r5 h5 => ?_)
  have er5 := er4.to t5
  cases q : putL x iv qv S5 with
  | none => simp only [q] at h5; exact h5.elim
  | some S6 =>
    simp only [q] at h5
    exact putL_H w5 (t5.rp (t4.rp (t3.rp (t2.rp r1)))) (t5.rp (t4.rp (t3.rp r2))) r5 q fun H' t6 w6 => PostS.nx w6 (er5.to t6) (PostS.after t6 h5)

/-! ### what a loop walks -/
theorem Dq.prv {P2 : Addr → Prop} (hp : ∀ a, P2 a → P a ∨ H a = none) {v : V} {d : PyData} (h : Dq H (LP P S m) v d) : Dq H (LP P2 S m) v d :=
  h.keep Kpt.refl fun a z => z.elim (fun q => (hp a q).imp .inl id) fun q => .inl (.inr q)
theorem DqAll.prv {P2 : Addr → Prop} (hp : ∀ a, P2 a → P a ∨ H a = none) {v : List V} {d : List PyData} (h : DqAll H (LP P S m) v d) : DqAll H (LP P2 S m) v d :=
  h.keep Kpt.refl fun a z => z.elim (fun q => (hp a q).imp .inl id) fun q => .inl (.inr q)
theorem Rp.prv {P2 : Addr → Prop} (hp : ∀ a, P2 a → P a ∨ H a = none) {v : V} : ∀ {x : EV}, Rp K P S H m v x → Rp K P2 S H m v x
  | .d _, h => Dq.prv hp h
  | .own _, h => h
  | .scr _, ⟨a, vs, e, h, r⟩ => ⟨a, vs, e, h.imp (fun ⟨h1, h2⟩ => ⟨h1, fun z => z.elim (fun q => (hp a q).elim (fun q => h2 (.inl q)) (fun q => rd_some h1 q)) fun q => h2 (.inr q)⟩) id, DqAll.prv hp r⟩
theorem RpL.prv {P2 : Addr → Prop} (hp : ∀ a, P2 a → P a ∨ H a = none) {vs : List V} {xs : List EV} (h : RpL K P S H m vs xs) : RpL K P2 S H m vs xs := by
  induction h with
  | nil => exact .nil
  | cons a _ ih => exact .cons (Rp.prv hp a) ih
theorem EnvR.prv {P2 : Addr → Prop} (hp : ∀ a, P2 a → P a ∨ H a = none) {ρ : Rho} {σ : L2.St} (h : EnvR K P S H m ρ σ) : EnvR K P2 S H m ρ σ := ⟨h.1, fun i x q => by
  obtain ⟨v, a, b⟩ := h.2 i x q
  exact ⟨v, a, Rp.prv hp b⟩⟩
def WalkI (K : PySem.W.Frag) (T : List Addr) (P : Addr → Prop) (S : Store) (H : Hp) (m : Nat → Addr) (J : It) (its : List Itm) : Prop :=
  ∀ (P2 : Addr → Prop) (S2 : Store) (H2 : Hp) (m2 : Nat → Addr) (i : Nat), (∀ a, P2 a → P a ∨ H a = none) → To P S H m S2 H2 m2 → Wd K P2 S2 H2 m2 T →
    (its.length = i → J.stop i H2) ∧ ∀ it, its[i]? = some it → J.go i H2 ∧ ∀ x H3, J.yld i H2 x H3 → To P2 S2 H2 m2 S2 H3 m2 ∧ Wd K P2 S2 H3 m2 T ∧ RpI K P2 S2 H3 m2 x it
abbrev RelW (K : PySem.W.Frag) (T : List Addr) (P : Addr → Prop) : Store → Hp → (Nat → Addr) → It → List Itm → Prop := fun S H m J its => WalkI K T P S H m J its
abbrev IF := Rho → Store → Res (List Itm)
structure DI (X : ι → Cx) (K : PySem.W.Frag) (T : List Addr) (W : WX) (tg e : Expr) (f : IF) : Prop where
  ex : ∃ wi : TI, (∀ i, PI (X i) tg e wi) ∧ ∀ P ρ S H m σ R, Wd K P S H m T → EnvR K P S H m ρ σ → Post K T P (RelW K T P) S H m σ W (f ρ S) R → wi σ H R
/-- the items of a value that stays as it is -/
def fixL : EV → Option (List PyData)
  | .d (.list ds) => some ds
  | .scr ds => some ds
  | _ => none
theorem walk_list {v : V} {x : EV} {ds : List PyData} (r : Rp K P S H m v x) (e : fixL x = some ds) : ∃ a, v = .ref a ∧ (∃ vs, SqL K H a vs) ∧ WalkI K T P S H m (Itl K a) ((evs ds).map .one) := by
  have core : ∀ (a : Addr) (vs : List V), (∀ (P2 : Addr → Prop) (S2 : Store) (H2 : Hp) (m2 : Nat → Addr), (∀ a, P2 a → P a ∨ H a = none) → To P S H m S2 H2 m2 → SqL K H2 a vs ∧ DqAll H2 (LP P2 S2 m2) vs ds) → WalkI K T P S H m (Itl K a) ((evs ds).map .one) := by
    intro a vs h P2 S2 H2 m2 i hp t w
    obtain ⟨h1, h2⟩ := h P2 S2 H2 m2 hp t
    refine ⟨fun hi => ⟨vs, h1, by rw [h2.length]; simpa [evs] using Nat.le_of_eq hi⟩, fun it hit => ?_⟩
    rw [List.getElem?_map] at hit
    cases q : (evs ds)[i]? with
    | none => rw [q] at hit; cases hit
    | some y =>
      rw [q] at hit
      cases hit
      obtain ⟨u, e1, e2⟩ := h2.rpL (K := K) |>.get q
      refine ⟨⟨vs, u, h1, e1⟩, fun x H3 ⟨e3, y3⟩ => ?_⟩
      subst e3
      refine ⟨To.refl, w, ?_⟩
      have z := y3 vs h1
      rw [e1] at z
      cases z
      exact e2
  cases x with
  | own _ => cases e
  | scr xs =>
    cases e
    obtain ⟨a, vs, rfl, h, r⟩ := r
    refine ⟨a, rfl, ⟨vs, h.elim (fun z => .inl z.1) (fun z => .inr z)⟩, core a vs fun P2 S2 H2 m2 hp t => ⟨?_, (To.prv t).dqAll (DqAll.prv hp r)⟩⟩
    exact h.elim (fun ⟨h1, h2⟩ => .inl (t.kpt.rd h1 h2 (fun ps e => by cases e))) fun z => .inr z
  | d y =>
    cases y <;> cases e
    cases r with
    | lst g n q => exact ⟨_, rfl, ⟨_, .of g⟩, core _ _ fun P2 S2 H2 m2 hp t => ⟨.of (t.kpt _ _ g n (fun ps e => by cases e)), (To.prv t).dqAll (DqAll.prv hp q)⟩⟩
theorem walk_tup {v : V} {ds : List PyData} (r : Rp K P S H m v (.d (.tuple ds))) : ∃ a, v = .ref a ∧ (∃ vs, SqT K H a vs) ∧ WalkI K T P S H m (Itt K a) ((evs ds).map .one) := by
  cases r with
  | tup g dn n q =>
    rename_i a o vs
    refine ⟨a, rfl, ⟨vs, sqT_frz g⟩, fun P2 S2 H2 m2 i hp t w => ?_⟩
    have h1 : SqT K H2 a vs := sqT_frz (t.kpt _ _ g n (fun ps e => by cases e))
    have h2 := (To.prv t).dqAll (DqAll.prv hp q)
    refine ⟨fun hi => ⟨vs, h1, by rw [h2.length]; simpa [evs] using Nat.le_of_eq hi⟩, fun it hit => ?_⟩
    rw [List.getElem?_map] at hit
    cases q : (evs ds)[i]? with
    | none => rw [q] at hit; cases hit
    | some y =>
      rw [q] at hit
      cases hit
      obtain ⟨u, e1, e2⟩ := h2.rpL (K := K) |>.get q
      refine ⟨⟨vs, u, h1, e1⟩, fun x H3 ⟨e3, y3⟩ => ?_⟩
      subst e3
      refine ⟨To.refl, w, ?_⟩
      have z := y3 vs h1
      rw [e1] at z
      cases z
      exact e2
theorem PI.or {X : Cx} {tg e : Expr} {t u : TI} (h : PI X tg e t) (k : PI X tg e u) : PI X tg e (fun σ H R => t σ H R ∨ u σ H R) :=
  ⟨fun pins s σ H R I q => q.elim (h.run pins s σ H R I) (k.run pins s σ H R I)⟩
/-- over a list, over a tuple (the kinds known to the one who asks) -/
def itF (f : EF) : IF := fun ρ S => (f ρ S).bind fun x S1 => match fixL x with
  | some ds => .ok ((evs ds).map .one) S1
  | none => .bad
def itTF (f : EF) : IF := fun ρ S => (f ρ S).bind fun x S1 => match x with
  | .d (.tuple ds) => .ok ((evs ds).map .one) S1
  | _ => .bad
theorem di_list (F : Fam X K N) (he : DE X K T W e f) : DI X K T W tg e (itF f) := by
  obtain ⟨t, pt, ht⟩ := he.ex
  refine ⟨iList K t, fun i => by have := pi_list (tg := tg) (pt i); rw [F.K i] at this; exact this, fun P ρ S H m σ R w er h => ?_⟩
  refine ht P ρ S H m σ _ w er (Post.step h fun S1 H1 m1 v x t1 w1 r1 h1 => ?_)
  split at h1
  · rename_i ds q
    obtain ⟨a, rfl, hs, wk⟩ := walk_list (T := T) r1 q
    exact ⟨a, rfl, hs, Post.done (Rel := RelW K T P) w1 h1 wk⟩
  · exact h1.elim
theorem di_tup (F : Fam X K N) (he : DE X K T W e f) : DI X K T W tg e (itTF f) := by
  obtain ⟨t, pt, ht⟩ := he.ex
  refine ⟨iTup K t, fun i => by have := pi_tup (tg := tg) (pt i); rw [F.K i] at this; exact this, fun P ρ S H m σ R w er h => ?_⟩
  refine ht P ρ S H m σ _ w er (Post.step h fun S1 H1 m1 v x t1 w1 r1 h1 => ?_)
  split at h1
  · rename_i ds
    obtain ⟨a, rfl, hs, wk⟩ := walk_tup (T := T) r1
    exact ⟨a, rfl, hs, Post.done (Rel := RelW K T P) w1 h1 wk⟩
  · exact h1.elim
def rngL (lo : Int) (n : Nat) : List Itm := (List.range n).map fun k : Nat => .one (.d (.int (lo + (k : Int))))
theorem walk_rng {lo : Int} {n : Nat} : WalkI K T P S H m (Itr lo n) (rngL lo n) := by
  intro P2 S2 H2 m2 i hp t w
  refine ⟨fun hi => show n ≤ i by simpa [rngL] using Nat.le_of_eq hi, fun it hit => ?_⟩
  unfold rngL at hit
  rw [List.getElem?_map] at hit
  have hi : i < n := by
    by_cases z : i < n
    · exact z
    · rw [List.getElem?_eq_none (by simpa using z)] at hit; cases hit
  rw [List.getElem?_eq_getElem (by simpa using hi)] at hit
  simp only [List.getElem_range, Option.map_some, Option.some.injEq] at hit
  subst hit
  refine ⟨hi, fun x H3 ⟨e3, y3⟩ => ?_⟩
  subst e3
  subst y3
  exact ⟨To.refl, w, Dq.int _⟩
noncomputable def inW (i : Int) : Bool := @decide (-(2 ^ 62) ≤ i ∧ i < 2 ^ 62) (Classical.propDecidable _)
theorem inW_iff {i : Int} : inW i = true ↔ -(2 ^ 62) ≤ i ∧ i < 2 ^ 62 := by unfold inW; simp
noncomputable def rng1F (fs : AF) : IF := fun ρ S => (fs ρ S).bind fun xs S1 => match xs with
  | [.d (.int j)] => if inW j = true then .ok (rngL 0 j.toNat) S1 else .bad
  | _ => .bad
noncomputable def rng2F (fs : AF) : IF := fun ρ S => (fs ρ S).bind fun xs S1 => match xs with
  | [.d (.int i), .d (.int j)] => if inW i = true ∧ inW j = true then .ok (rngL i (j - i).toNat) S1 else .bad
  | _ => .bad
theorem di_range1 {p : Pos} (hm : ∀ i, (X i).mg "range" = none) (ha : DA X K T W [a] fs) (hg : ∀ i, Gl (X i) "range" := by intro _; rfl) (hs : ∀ i, starEach [a] (X i).env = [(false, eval a (X i).env)] := by intro _; rfl) :
    DI X K T W tg (.Call (.Name "range" p) [a] [] pos) (rng1F fs) := by
  obtain ⟨t, pt, ht⟩ := ha.ex
  refine ⟨iRng1 t, fun i => pi_range1 (hg i) (hm i) (pt i) (hs i), fun P ρ S H m σ R w er h => ?_⟩
  refine ht P ρ S H m σ _ w er (Post.step h fun S1 H1 m1 v x t1 w1 r1 h1 => ?_)
  split at h1
  · split at h1
    · rename_i j q
      obtain ⟨v, rfl, rv⟩ := rpl_one r1
      obtain rfl := rp_int rv
      exact ⟨j, rfl, (inW_iff.mp q).1, (inW_iff.mp q).2, Post.done (Rel := RelW K T P) w1 h1 walk_rng⟩
    · exact h1.elim
  · exact h1.elim
theorem di_range2 {p : Pos} (hm : ∀ i, (X i).mg "range" = none) (ha : DA X K T W [a, b] fs) (hg : ∀ i, Gl (X i) "range" := by intro _; rfl) (hs : ∀ i, starEach [a, b] (X i).env = [(false, eval a (X i).env), (false, eval b (X i).env)] := by intro _; rfl)
    (hs2 : ∀ i, starEach [b] (X i).env = [(false, eval b (X i).env)] := by intro _; rfl) :
    DI X K T W tg (.Call (.Name "range" p) [a, b] [] pos) (rng2F fs) := by
  obtain ⟨t, pt, ht⟩ := ha.ex
  refine ⟨iRng2 t, fun i => pi_range2 (hg i) (hm i) (pt i) (hs i) (hs2 i), fun P ρ S H m σ R w er h => ?_⟩
  refine ht P ρ S H m σ _ w er (Post.step h fun S1 H1 m1 v x t1 w1 r1 h1 => ?_)
  split at h1
  · split at h1
    · rename_i i j q
      obtain ⟨v, u, rfl, rv, ru⟩ := rpl_two r1
      obtain rfl := rp_int rv
      obtain rfl := rp_int ru
      exact ⟨i, j, rfl, ⟨(inW_iff.mp q.1).1, (inW_iff.mp q.1).2, (inW_iff.mp q.2).1, (inW_iff.mp q.2).2⟩, Post.done (Rel := RelW K T P) w1 h1 walk_rng⟩
    · exact h1.elim
  · exact h1.elim

/-! ### for -/
def forL (g : GF) (b : SF) : List Itm → SF
  | [] => fun ρ S => .nx ρ S
  | it :: r => fun ρ S => match g it ρ with
    | none => .bad
    | some ρ1 => match b ρ1 S with
      | .nx ρ2 S2 => forL g b r ρ2 S2
      | .cont ρ2 S2 => forL g b r ρ2 S2
      | .brk ρ2 S2 => .nx ρ2 S2
      | o => o
def forSF (f : IF) (g : GF) (b : SF) : SF := fun ρ S => (f ρ S).toS ρ fun its S1 => forL g b its ρ S1
theorem ds_for (F : Fam X K N) {iter : Expr} {body : List Stmt} {f : IF} (hi : DI X K T W tg iter f) (hg : DG X K T tg ws g) (hb : DSs X K T W body sf) (hp : ∀ i, PassesOwn (model (X i).prog (X i).w) (X i).A (X i).env (X i).xe)
    (hs : ∀ i x, foldedSetIterable iter (X i).env x = pure x := by intro _ _; rfl) : DS X K T W (.For tg iter body [] pos) (forSF f g sf) := by
  obtain ⟨wi, pi, hI⟩ := hi.ex
  obtain ⟨u, pu, hu⟩ := hg.ex
  obtain ⟨t, pt, ht⟩ := hb.ex
  refine ⟨tFor wi u t, fun j => ps_for (hp j) (F.calm j) (pi j) (pu j) (pt j) (hs j), fun P ρ S H m σ D w er h => ?_⟩
  refine hI P ρ S H m σ _ w er (PostS.step er h fun S1 H1 m1 J its t1 w1 r1 h1 => ?_)
  have er1 := er.to t1
  refine ⟨fun i k σ' H' => k = its.length - i ∧ i ≤ its.length ∧ ∃ ρ' S' m', To P S1 H1 m1 S' H' m' ∧ Wd K P S' H' m' T ∧ EnvR K P S' H' m' ρ' σ' ∧ PostS K T P S' H' m' W (forL g sf (its.drop i) ρ' S') D,
    ⟨_, rfl, Nat.zero_le _, ρ, S1, m1, To.refl, w1, er1, h1⟩, ?_⟩
  rintro i k σ2 H2 ⟨rfl, hi, ρ2, S2, m2, t2, w2, e2, h2⟩
  obtain ⟨stop, go⟩ := r1 P S2 H2 m2 i (fun _ z => .inl z) t2 w2
  by_cases hl : i < its.length
  · refine .inr ?_
    obtain ⟨g1, g2⟩ := go its[i] (List.getElem?_eq_getElem hl)
    have ed : its.drop i = its[i] :: its.drop (i + 1) := List.drop_eq_getElem_cons hl
    rw [ed] at h2
    unfold forL at h2
    cases q : g its[i] ρ2 with
    | none => simp only [q] at h2; exact h2.elim
    | some ρ3 =>
      simp only [q] at h2
      refine ⟨g1, fun σ' H' => ∃ ρ' S' m', To P S1 H1 m1 S' H' m' ∧ Wd K P S' H' m' T ∧ EnvR K P S' H' m' ρ' σ' ∧ PostS K T P S' H' m' W (forL g sf (its.drop (i + 1)) ρ' S') D,
        fun σ' H' z => ⟨_, by omega, rfl, hl, z⟩, fun x H3 y3 => ?_⟩
      obtain ⟨t3, w3, r3⟩ := g2 x H3 y3
      refine hu P ρ2 ρ3 S2 H3 m2 σ2 x its[i] _ w3 (e2.to t3) r3 q fun σ4 e4 _ => ?_
      refine ht P ρ3 S2 H3 m2 σ4 _ w3 e4 ?_
      cases qb : sf ρ3 S2 with
      | bad => rw [qb] at h2; exact h2
      | ret x S5 => rw [qb] at h2; exact PostS.after (r := .ret x S5) t3 h2
      | exc x ρ S5 => rw [qb] at h2; exact PostS.after (r := .exc x ρ S5) t3 h2
      | brk ρ5 S5 => rw [qb] at h2; exact fun H' m' σ' t5 w5 e5 => h2 H' m' σ' (t3.trans t5) w5 e5
      | nx ρ5 S5 => rw [qb] at h2; exact fun H' m' σ' t5 w5 e5 => ⟨ρ5, S5, m', (t2.trans t3).trans t5, w5, e5, PostS.after (t3.trans t5) h2⟩
      | cont ρ5 S5 => rw [qb] at h2; exact fun H' m' σ' t5 w5 e5 => ⟨ρ5, S5, m', (t2.trans t3).trans t5, w5, e5, PostS.after (t3.trans t5) h2⟩
  · refine .inl ⟨stop (by omega), ?_⟩
    rw [List.drop_eq_nil_of_le (by omega)] at h2
    exact PostS.nx w2 e2 h2

/-! ### while -/
def whileN (c : BF) (b : SF) : Nat → SF
  | 0 => fun _ _ => .bad
  | k + 1 => fun ρ S => (c ρ S).toS ρ fun v S1 => if v = true then match b ρ S1 with
      | .nx ρ2 S2 => whileN c b k ρ2 S2
      | .cont ρ2 S2 => whileN c b k ρ2 S2
      | .brk ρ2 S2 => .nx ρ2 S2
      | o => o
    else .nx ρ S1
/-- the first way that ends well: n turns are enough -/
theorem ds_whileN (n : Nat) {body : List Stmt} (hc : DT X K T W c ba) (hb : DSs X K T W body sf) (hp : ∀ i, PassesOwn (model (X i).prog (X i).w) (X i).A (X i).env (X i).xe) : DS X K T W (.While c body [] pos) (whileN ba sf n) := by
  obtain ⟨tc, pc, hC⟩ := hc.ex
  obtain ⟨t, pt, ht⟩ := hb.ex
  refine ⟨tWhile tc t, fun j => ps_while (hp j) (pc j) (pt j), fun P ρ S H m σ D w er h => ?_⟩
  refine ⟨fun k σ' H' => ∃ ρ' S' m', To P S H m S' H' m' ∧ Wd K P S' H' m' T ∧ EnvR K P S' H' m' ρ' σ' ∧ PostS K T P S' H' m' W (whileN ba sf k ρ' S') D, ⟨n, ρ, S, m, To.refl, w, er, h⟩, ?_⟩
  rintro k σ2 H2 ⟨ρ2, S2, m2, t2, w2, e2, h2⟩
  cases k with
  | zero => exact h2.elim
  | succ k =>
    unfold whileN at h2
    refine hC P ρ2 S2 H2 m2 σ2 _ w2 e2 (PostS.step e2 h2 fun S3 H3 m3 v x t3 w3 r3 h3 => ?_)
    obtain rfl : v = x := r3
    cases v with
    | false =>
      simp only [Bool.false_eq_true, if_false] at h3 ⊢
      exact PostS.nx w3 (e2.to t3) h3
    | true =>
      simp only [if_true] at h3 ⊢
      refine ⟨fun σ' H' => ∃ ρ' S' m', To P S H m S' H' m' ∧ Wd K P S' H' m' T ∧ EnvR K P S' H' m' ρ' σ' ∧ PostS K T P S' H' m' W (whileN ba sf k ρ' S') D, fun σ' H' z => ⟨k, Nat.lt_succ_self _, z⟩, ?_⟩
      refine ht P ρ2 S3 H3 m3 σ2 _ w3 (e2.to t3) ?_
      cases qb : sf ρ2 S3 with
      | bad => rw [qb] at h3; exact h3
      | ret x S5 => rw [qb] at h3; exact h3
      | exc x ρ S5 => rw [qb] at h3; exact h3
      | brk ρ5 S5 => rw [qb] at h3; exact h3
      | nx ρ5 S5 => rw [qb] at h3; exact fun H' m' σ' t5 w5 e5 => ⟨ρ5, S5, m', (t2.trans t3).trans t5, w5, e5, PostS.after t5 h3⟩
      | cont ρ5 S5 => rw [qb] at h3; exact fun H' m' σ' t5 w5 e5 => ⟨ρ5, S5, m', (t2.trans t3).trans t5, w5, e5, PostS.after t5 h3⟩
open Classical in
/-- as many turns as it takes -/
noncomputable def whileF (c : BF) (b : SF) : SF := fun ρ S => if h : ∃ n, whileN c b n ρ S ≠ .bad then whileN c b (choose h) ρ S else .bad
theorem ds_while {body : List Stmt} (hc : DT X K T W c ba) (hb : DSs X K T W body sf) (hp : ∀ i, PassesOwn (model (X i).prog (X i).w) (X i).A (X i).env (X i).xe) : DS X K T W (.While c body [] pos) (whileF ba sf) := by
  obtain ⟨t, pt, _⟩ := (ds_whileN (pos := pos) 0 hc hb hp).ex
  obtain ⟨tc, pc, hC⟩ := hc.ex
  obtain ⟨tb, pb, hB⟩ := hb.ex
  refine ⟨tWhile tc tb, fun j => ps_while (hp j) (pc j) (pb j), fun P ρ S H m σ D w er h => ?_⟩
  unfold whileF at h
  split at h
  · rename_i hx
    generalize Classical.choose hx = n at h
    refine ⟨fun k σ' H' => ∃ ρ' S' m', To P S H m S' H' m' ∧ Wd K P S' H' m' T ∧ EnvR K P S' H' m' ρ' σ' ∧ PostS K T P S' H' m' W (whileN ba sf k ρ' S') D, ⟨n, ρ, S, m, To.refl, w, er, h⟩, ?_⟩
    rintro k σ2 H2 ⟨ρ2, S2, m2, t2, w2, e2, h2⟩
    cases k with
    | zero => exact h2.elim
    | succ k =>
      unfold whileN at h2
      refine hC P ρ2 S2 H2 m2 σ2 _ w2 e2 (PostS.step e2 h2 fun S3 H3 m3 v x t3 w3 r3 h3 => ?_)
      obtain rfl : v = x := r3
      cases v with
      | false =>
        simp only [Bool.false_eq_true, if_false] at h3 ⊢
        exact PostS.nx w3 (e2.to t3) h3
      | true =>
        simp only [if_true] at h3 ⊢
        refine ⟨fun σ' H' => ∃ ρ' S' m', To P S H m S' H' m' ∧ Wd K P S' H' m' T ∧ EnvR K P S' H' m' ρ' σ' ∧ PostS K T P S' H' m' W (whileN ba sf k ρ' S') D, fun σ' H' z => ⟨k, Nat.lt_succ_self _, z⟩, ?_⟩
        refine hB P ρ2 S3 H3 m3 σ2 _ w3 (e2.to t3) ?_
        cases qb : sf ρ2 S3 with
        | bad => rw [qb] at h3; exact h3
        | ret x S5 => rw [qb] at h3; exact h3
        | exc x ρ S5 => rw [qb] at h3; exact h3
        | brk ρ5 S5 => rw [qb] at h3; exact h3
        | nx ρ5 S5 => rw [qb] at h3; exact fun H' m' σ' t5 w5 e5 => ⟨ρ5, S5, m', (t2.trans t3).trans t5, w5, e5, PostS.after t5 h3⟩
        | cont ρ5 S5 => rw [qb] at h3; exact fun H' m' σ' t5 w5 e5 => ⟨ρ5, S5, m', (t2.trans t3).trans t5, w5, e5, PostS.after t5 h3⟩
  · exact h.elim
/-- enough turns: the number does not matter -/
theorem whileN_mono {c : BF} {b : SF} : ∀ {n k : Nat} {ρ : Rho} {S : Store}, n ≤ k → whileN c b n ρ S ≠ .bad → whileN c b k ρ S = whileN c b n ρ S
  | 0, _, _, _, _, h => absurd rfl h
  | n + 1, 0, _, _, h, _ => absurd h (by omega)
  | n + 1, k + 1, ρ, S, hk, h => by
    unfold whileN at h ⊢
    cases q : c ρ S with
    | bad => rw [q] at h; exact absurd rfl h
    | exc e S' => rfl
    | ok v S1 =>
      rw [q] at h
      simp only [Res.toS] at h ⊢
      cases v with
      | false => rfl
      | true =>
        simp only [if_true] at h ⊢
        cases qb : b ρ S1 with
        | nx ρ2 S2 => rw [qb] at h; exact whileN_mono (by omega) h
        | cont ρ2 S2 => rw [qb] at h; exact whileN_mono (by omega) h
        | brk _ _ => rfl
        | bad => rfl
        | ret _ _ => rfl
        | exc _ _ _ => rfl
theorem whileF_eq {c : BF} {b : SF} {n : Nat} {ρ : Rho} {S : Store} (h : whileN c b n ρ S ≠ .bad) : whileF c b ρ S = whileN c b n ρ S := by
  unfold whileF
  rw [dif_pos ⟨n, h⟩]
  have hx : ∃ n, whileN c b n ρ S ≠ .bad := ⟨n, h⟩
  rcases Nat.le_total n (Classical.choose hx) with z | z
  · exact whileN_mono z h
  · exact (whileN_mono z (Classical.choose_spec hx)).symm

/-! ### a list is given up -/
/-- the list at slot i never changes from here on -/
def frz (i : Nat) : Rho → Store → Option (Rho × Store) := fun ρ S => match ρ[i]? with
  | some (some (.own n)) => match S[n]? with
    | some (.lst xs) => match datas xs with
      | some ds => some (ρ.set i (some (.d (.list ds))), S.set n .gone)
      | none => none
    | _ => none
  | _ => none
def frzF (i : Nat) (f : SF) : SF := fun ρ S => match frz i ρ S with
  | some (ρ1, S1) => f ρ1 S1
  | none => .bad
theorem dss_frz (i : Nat) (hs : DSs X K T W sts sf) : DSs X K T W sts (frzF i sf) := by
  obtain ⟨t, pt, ht⟩ := hs.ex
  refine ⟨t, pt, fun P ρ S H m σ D w er h => ?_⟩
  unfold frzF frz at h
  split at h
  · rename_i ρ1 S1 q
    split at q
    · rename_i n qn
      split at q
      · rename_i xs qs
        split at q
        · rename_i ds qd
          cases q
          obtain rfl := evs_of qd
          have ng : (SO.lst (evs ds)) ≠ .gone := fun z => by cases z
          have t1 := To.freeze (P := P) (H := H) (m := m) qs ng
          have w1 := w.freeze qs ng
          refine ht P _ _ H m σ D w1 ?_ (PostS.after t1 h)
          obtain ⟨v, hv, rfl, _⟩ := er.2 i _ qn
          have e2 := (er.to t1).set i (show Rp K P _ H m (.ref (m n)) (.d (.list ds)) from w.frozen qs)
          have : σ.set i (some (V.ref (m n))) = σ := by
            apply List.ext_getElem?
            intro j
            by_cases z : i = j
            · subst z
              rw [List.getElem?_set_self (List.getElem?_eq_some_iff.mp hv).1, hv]
            · rw [List.getElem?_set_ne z]
          rw [this] at e2
          exact e2
        · cases q
      · cases q
    · cases q
  · exact h.elim
/-- an own list handed out for good: the value of e is frozen -/
def frzV : EV → Store → Res EV := fun x S => match x with
  | .own n => match S[n]? with
    | some (.lst xs) => match datas xs with
      | some ds => .ok (.d (.list ds)) (S.set n .gone)
      | none => .bad
    | _ => .bad
  | _ => .bad
def frzE (f : EF) : EF := fun ρ S => (f ρ S).bind frzV
theorem de_frz (he : DE X K T W e f) : DE X K T W e (frzE f) := by
  obtain ⟨t, pt, ht⟩ := he.ex
  refine ⟨t, pt, fun P ρ S H m σ Q w er h => ?_⟩
  refine ht P ρ S H m σ _ w er (Post.step h fun S1 H1 m1 v x t1 w1 r1 h1 => ?_)
  unfold frzV at h1
  split at h1
  · rename_i n
    split at h1
    · rename_i xs qs
      split at h1
      · rename_i ds qd
        obtain rfl := evs_of qd
        have ng : (SO.lst (evs ds)) ≠ .gone := fun z => by cases z
        obtain ⟨rfl, _⟩ := r1
        exact h1 H1 m1 _ (To.freeze qs ng) (w1.freeze qs ng) (w1.frozen qs)
      · exact h1.elim
    · exact h1.elim
  · exact h1.elim
end
end Z
set_option maxRecDepth 100000
/-! Z8: a def's promise, calls; comprehensions. -/
namespace Z
open PySem PySem.Spec PyProof.Rows L2

/-! ### a def by its function -/
abbrev GFn := List EV → Store → Res EV
def spG (K : PySem.W.Frag) (T : List Addr) (n : Nat) (G : GFn) : Sp := fun vs H Q E => vs.length = n ∧ ∃ P S m xs, Wd K P S H m T ∧ RpL K P S H m vs xs ∧ Post K T P (RelE K P) S H m [] (fun c d _ H => E c d H) (G xs S) Q
theorem Post.wx {α β : Type} {K : PySem.W.Frag} {T : List Addr} {P : Addr → Prop} {S : Store} {H : Hp} {m : Nat → Addr} {σ σ' : L2.St} {W W' : WX} {Rel : Store → Hp → (Nat → Addr) → β → α → Prop} {r : Res α} {Q : β → Hp → Prop}
    (h : Post K T P Rel S H m σ W r Q) (k : ∀ c d H, W c d σ H → W' c d σ' H) : Post K T P Rel S H m σ' W' r Q := by
  cases r with
  | bad => exact h
  | ok x S' => exact h
  | exc e S' => exact fun H' m' c d a w r => k _ _ _ (h H' m' c d a w r)
theorem spG.imp {K : PySem.W.Frag} {T : List Addr} {n : Nat} {G G' : GFn} (h : ∀ xs S, G' xs S ≠ .bad → G xs S = G' xs S) {vs : List V} {H : Hp} {Q : VK} {E : XK} (s : spG K T n G' vs H Q E) : spG K T n G vs H Q E := by
  obtain ⟨hl, P, S, m, xs, w, r, p⟩ := s
  refine ⟨hl, P, S, m, xs, w, r, ?_⟩
  by_cases z : G' xs S = .bad
  · rw [z] at p; exact p.elim
  · rw [h xs S z]; exact p
def startR (N : List Str) (xs : List EV) : Rho := xs.map some ++ List.replicate (N.length - xs.length) none
def runF (N : List Str) (f : SF) : GFn := fun xs S => match f (startR N xs) S with
  | .ret x S' => .ok x S'
  | .nx _ S' => .ok (.d .none) S'
  | .exc e _ S' => .exc e S'
  | _ => .bad
theorem envR_start {K : PySem.W.Frag} {P : Addr → Prop} {S : Store} {H : Hp} {m : Nat → Addr} {N : List Str} {vs : List V} {xs : List EV} (r : RpL K P S H m vs xs) : EnvR K P S H m (startR N xs) (L2.start N vs) := by
  have hl := r.length
  refine ⟨by simp [startR, L2.start, hl], fun i x h => ?_⟩
  unfold startR at h
  by_cases hi : i < xs.length
  · rw [List.getElem?_append_left (by simpa using hi), List.getElem?_map] at h
    cases q : xs[i]? with
    | none => rw [q] at h; cases h
    | some y =>
      rw [q] at h
      cases h
      obtain ⟨v, e, rv⟩ := r.get q
      refine ⟨v, ?_, rv⟩
      unfold L2.start
      rw [List.getElem?_append_left (by simpa [hl] using hi), List.getElem?_map, e]
      rfl
  · rw [List.getElem?_append_right (by simpa using hi)] at h
    rw [List.getElem?_replicate] at h
    split at h <;> cases h
section
variable {P : Program} {w : World} {K : PySem.W.Frag} {mg : Str → Option Value} {base : Heap} {T : List Addr}
theorem fn_G {x qual : Str} {st : Stmt} {f : Addr} {fd : FuncData} {N ps : List Str} {k : Nat} {sf : SF} (F : Fun K x qual st f fd) (S : FnScope N ps (defScope st))
    (hbody : ∀ (cdv : Value) (A : Around) (outer : List Env) (s : Shared) (H : Hp) (E : XK), Room k (A.deeper (envOfC qual (defScope st) s.heap.objs.size f cdv)) →
      DSs (fun _ : Unit => cxOf (L2.CX P w) P w K mg base N qual (defScope st) f cdv A outer s H E) K T (fun c d _ H => E c d H) (defBody st) sf) :
    FnOk P w K mg base (L2.CX P w) (k + 1) f fd ps (spG K T ps.length (runF N sf)) := by
  refine Fun.okX F S (fun vs H Q E h => h.1) fun cdv A outer s H vs Q E hr hs => ?_
  obtain ⟨t, pt, ht⟩ := (hbody cdv A outer s H E hr).ex
  obtain ⟨_, P', S', m, xs, w, r, p⟩ := hs
  refine ⟨t, pt (), ht P' (startR N xs) S' H m _ _ w (envR_start r) ?_⟩
  unfold runF at p
  cases q : sf (startR N xs) S' with
  | bad => rw [q] at p; exact p.elim
  | nx ρ S2 => rw [q] at p; exact fun H' m' σ' t w e => p H' m' .non t w Dq.non
  | ret x S2 => rw [q] at p; exact fun H' m' v t w e => p H' m' v t w e
  | brk ρ S2 => rw [q] at p; exact p.elim
  | cont ρ S2 => rw [q] at p; exact p.elim
  | exc e ρ S2 => rw [q] at p; exact fun H' m' c d σ' t w er ex => p H' m' c d t w ex
end

section
variable {ι : Type} {X : ι → Cx} {K : PySem.W.Frag} {T : List Addr} {W : WX} {N : List Str}
variable {a b c e tg : Expr} {fa fb fc f : EF} {ba bb : BF} {pos : Pos} {es tgs : List Expr} {fs : AF} {g : GF} {gs : GsF} {ws us : List Nat} {n : Nat}
variable {P : Addr → Prop} {S : Store} {H : Hp} {m : Nat → Addr} {σ : L2.St} {st : Stmt} {sts : List Stmt} {sf sg sh : SF}
/-- a call of a def: n arguments -/
def callG (n : Nat) (G : GFn) (fs : AF) : EF := fun ρ S => (fs ρ S).bind fun xs S1 => if xs.length = n then G xs S1 else .bad
theorem de_call {k : Nat} {fa : Addr} {fd : FuncData} {ps : List Str} {x : Str} {p : Pos} {G : GFn} (hF : ∀ i, FnOk (X i).prog (X i).w (X i).K (X i).mg (X i).base (L2.CX (X i).prog (X i).w) k fa fd ps (spG K T ps.length G)) (hr : ∀ i, Room k (X i).A)
    (hm : ∀ i, (X i).mg x = some (.ref fa)) (hk : ∀ i, PySem.W.keepIn (X i).K (.ref fa) = true) (hb : ∀ i, Binds (X i).K fd ps []) (tk : ∀ i, Takes (X i) W) (ha : DA X K T W (e :: es) fs) (hg : ∀ i, Gl (X i) x := by intro _; rfl)
    (hdb : (x == ("__debug__" : Str)) = false := by decide) (he : ∀ i, starEach (e :: es) (X i).env = (false, eval e (X i).env) :: starEach es (X i).env := by intro _; rfl) (hpl : ∀ i, (backTo pos (starEach es (X i).env)).any (·.1) = false := by intro _; rfl) :
    DE X K T W (.Call (.Name x p) (e :: es) [] pos) (callG ps.length G fs) := by
  obtain ⟨t, pt, ht⟩ := ha.ex
  refine ⟨tCallS (spG K T ps.length G) (WE W) t, fun i => pe_callS (hF i) (hr i) (hg i) (hm i) (hk i) (hb i) (fun σ => passAt (tk i) σ) (pt i) hdb (he i) (hpl i), fun P ρ S H m σ Q w er h => ?_⟩
  refine ht P ρ S H m σ _ w er (Post.step h fun S1 H1 m1 vs xs t1 w1 r1 h1 => ?_)
  split at h1
  · rename_i hl
    exact ⟨by rw [r1.length]; exact hl, P, S1, m1, xs, w1, r1, Post.wx h1 fun c d H z => z⟩
  · exact h1.elim

/-! ### a private thing -/
def Plus (P : Addr → Prop) (D : Addr) : Addr → Prop := fun a => P a ∨ a = D
theorem plus_ok {D : Addr} (hD : H D = none) : ∀ a, Plus P D a → P a ∨ H a = none := fun a z => z.imp id fun e => by rw [e]; exact hD
theorem SOk.prv {P2 : Addr → Prop} (hp : ∀ a, P2 a → P a ∨ H a = none) {x : Addr} : ∀ {o : SO}, SOk K P S H m x o → SOk K P2 S H m x o
  | .lst xs, ⟨vs, h, r⟩ => ⟨vs, h, RpL.prv hp r⟩
  | .dct kvs, ⟨vs, h, r⟩ => ⟨vs, h, Paired.mapP r fun _ _ q => ⟨q.1, Rp.prv hp q.2⟩⟩
  | .dtp _ kvs, ⟨vs, h, r⟩ => ⟨vs, h, Paired.mapP r fun _ _ q => ⟨q.1, Rp.prv (K := K) (x := .d _) hp q.2.1, q.2.2.imp fun _ z => ⟨z.1, Rp.prv hp z.2⟩⟩⟩
  | .gone, _ => trivial
/-- it begins -/
theorem Wd.priv (w : Wd K P S H m T) {D : Addr} {o : HO} (hD : H D = none) : Wd K (Plus P D) S (upd H D o) m T where
  ok := fun n u h => by
    by_cases g : u = .gone
    · rw [g]; trivial
    · have t := To.new (o := o) w hD
      exact SOk.to (To.prv t) (upd_ne fun e => w.some_ h g (by rw [e]; exact hD)) (SOk.prv (plus_ok hD) (w.ok n u h))
  inj := w.inj
  tab := fun q hq => tabG_upd (w.tab q hq) hD
  prv := fun a ha => by
    rcases ha with ha | rfl
    · exact ⟨(To.new (o := o) w hD).some_ a (w.prv a ha).1, (w.prv a ha).2⟩
    · exact ⟨by rw [upd_same]; exact fun z => (by cases z), fun z => w.liveSome z hD⟩
theorem To.priv {S1 : Store} {H1 : Hp} {m1 : Nat → Addr} (t : To P S H m S1 H1 m1) {D : Addr} {o : HO} (hD : H D = none) : To P S H m S1 (upd H1 D o) m1 where
  keep := fun a u h n nt => by rw [upd_ne (ne_of_none h hD)]; exact t.keep a u h n nt
  ext := t.ext
  le := t.le
  live := t.live
  some_ := fun a h => by
    by_cases e : a = D
    · rw [e, upd_same]; exact fun z => by cases z
    · rw [upd_ne e]; exact t.some_ a h
theorem kpt_priv {D : Addr} {o : HO} : Kpt (LP (Plus P D) S m) H (upd H D o) := fun a u h n _ => by
  by_cases e : a = D
  · exact absurd (Or.inl (Or.inr e)) n
  · rw [upd_ne e]; exact h
theorem Dq.upP {D : Addr} {o : HO} {v : V} {d : PyData} (h : Dq H (LP (Plus P D) S m) v d) : Dq (upd H D o) (LP (Plus P D) S m) v d := h.keep kpt_priv fun _ z => .inl z
theorem DqAll.upP {D : Addr} {o : HO} {v : List V} {d : List PyData} (h : DqAll H (LP (Plus P D) S m) v d) : DqAll (upd H D o) (LP (Plus P D) S m) v d := h.keep kpt_priv fun _ z => .inl z
theorem Rp.upP {D : Addr} {o : HO} {v : V} : ∀ {x : EV}, Rp K (Plus P D) S H m v x → Rp K (Plus P D) S (upd H D o) m v x
  | .d _, h => Dq.upP h
  | .own _, h => h
  | .scr _, ⟨a, vs, e, h, r⟩ => ⟨a, vs, e, h.imp (fun ⟨h1, h2⟩ => ⟨kpt_priv.rd h1 h2 (fun ps e => by cases e), h2⟩) id, DqAll.upP r⟩
theorem RpL.upP {D : Addr} {o : HO} {v : List V} {x : List EV} (h : RpL K (Plus P D) S H m v x) : RpL K (Plus P D) S (upd H D o) m v x := by
  induction h with
  | nil => exact .nil
  | cons a _ ih => exact .cons (Rp.upP a) ih
theorem EnvR.upP {D : Addr} {o : HO} {ρ : Rho} (h : EnvR K (Plus P D) S H m ρ σ) : EnvR K (Plus P D) S (upd H D o) m ρ σ := ⟨h.1, fun i x q => by
  obtain ⟨v, a, b⟩ := h.2 i x q
  exact ⟨v, a, Rp.upP b⟩⟩
theorem SOk.upP {D x : Addr} {o : HO} (hx : x ≠ D) : ∀ {u : SO}, SOk K (Plus P D) S H m x u → SOk K (Plus P D) S (upd H D o) m x u
  | .lst xs, ⟨vs, h, r⟩ => ⟨vs, by rw [upd_ne hx]; exact h, RpL.upP r⟩
  | .dct kvs, ⟨vs, h, r⟩ => ⟨vs, by rw [upd_ne hx]; exact h, Paired.mapP r fun _ _ q => ⟨q.1, Rp.upP q.2⟩⟩
  | .dtp _ kvs, ⟨vs, h, r⟩ => ⟨vs, by rw [upd_ne hx]; exact h, Paired.mapP r fun _ _ q => ⟨q.1, Rp.upP (K := K) (x := .d _) q.2.1, q.2.2.imp fun _ z => ⟨z.1, Rp.upP z.2⟩⟩⟩
  | .gone, _ => trivial
/-- it is changed -/
theorem Wd.upP {D : Addr} {o : HO} (w : Wd K (Plus P D) S H m T) (ht : ∀ ps, H D ≠ some (.tbl ps)) : Wd K (Plus P D) S (upd H D o) m T where
  ok := fun n u h => by
    by_cases g : u = .gone
    · rw [g]; trivial
    · exact SOk.upP (fun e => (w.prv D (.inr rfl)).2 ⟨n, u, h, g, e⟩) (w.ok n u h)
  inj := w.inj
  tab := fun q hq => by
    obtain ⟨ps, e, r⟩ := w.tab q hq
    refine ⟨ps, ?_, r⟩
    rw [upd_ne]
    · exact e
    · intro z
      subst z
      exact ht ps e
  prv := fun a ha => by
    refine ⟨?_, (w.prv a ha).2⟩
    by_cases e : a = D
    · rw [e, upd_same]; exact fun z => by cases z
    · rw [upd_ne e]; exact (w.prv a ha).1
theorem lp_less {D : Addr} : ∀ a, LP P S m a → LP (Plus P D) S m a := fun a z => z.imp .inl id
theorem Rp.less {P2 : Addr → Prop} (hp : ∀ a, P2 a → P a) {v : V} : ∀ {x : EV}, Rp K P S H m v x → Rp K P2 S H m v x := fun h => Rp.prv (fun a z => .inl (hp a z)) h
/-- it is over, and nobody's -/
theorem Wd.endP {D : Addr} (w : Wd K (Plus P D) S H m T) : Wd K P S H m T where
  ok := fun n u h => SOk.prv (fun a z => .inl (.inl z)) (w.ok n u h)
  inj := w.inj
  tab := w.tab
  prv := fun a ha => w.prv a (.inl ha)
/-- it is over: data from now on -/
theorem Dq.endP {D : Addr} (w : Wd K (Plus P D) S H m T) (hn : ¬ P D) {vs : List V} {ds : List PyData} (hD : H D = some (.lst vs)) (r : RpL K (Plus P D) S H m vs (evs ds)) : Dq H (LP P S m) (.ref D) (.list ds) :=
  .lst hD (fun z => z.elim hn (w.prv D (.inr rfl)).2) (DqAll.prv (fun a z => .inl (.inl z)) r.dq)
/-- it is over: a thing of the store -/
theorem Wd.own {D : Addr} (w : Wd K (Plus P D) S H m T) (hn : ¬ P D) {vs : List V} {xs : List EV} (hD : H D = some (.lst vs)) (r : RpL K (Plus P D) S H m vs xs) : Wd K P (S ++ [.lst xs]) H (ext1 m S.length D) T := by
  have live : ∀ a, Live (S ++ [.lst xs]) (ext1 m S.length D) a → Live S m a ∨ a = D := fun a => live_snoc
  have lp : ∀ a, LP P (S ++ [.lst xs]) (ext1 m S.length D) a → LP (Plus P D) S m a := fun a z => by
    rcases z with z | z
    · exact .inl (.inl z)
    · rcases live a z with z | z
      · exact .inr z
      · exact .inl (.inr z)
  have rp : ∀ {v : V} {x : EV}, Rp K (Plus P D) S H m v x → Rp K P (S ++ [.lst xs]) H (ext1 m S.length D) v x := fun {v x} h => by
    cases x with
    | d y => exact h.keep Kpt.refl fun a z => .inl (lp a z)
    | own k => exact ⟨by rw [ext1_ne (Nat.ne_of_lt h.2)]; exact h.1, by rw [List.length_append]; exact Nat.lt_of_lt_of_le h.2 (Nat.le_add_right _ _)⟩
    | scr ys =>
      obtain ⟨a, us, e, h, q⟩ := h
      exact ⟨a, us, e, h.imp (fun ⟨h1, h2⟩ => ⟨h1, fun z => h2 (lp a z)⟩) id, q.keep Kpt.refl fun a z => .inl (lp a z)⟩
  have rpl : ∀ {v : List V} {x : List EV}, RpL K (Plus P D) S H m v x → RpL K P (S ++ [.lst xs]) H (ext1 m S.length D) v x := fun {v x} h => by
    induction h with
    | nil => exact .nil
    | cons a _ ih => exact .cons (rp a) ih
  have nD : ∀ n u, S[n]? = some u → u ≠ .gone → m n ≠ D := fun n u h g e => (w.prv D (.inr rfl)).2 ⟨n, u, h, g, e⟩
  refine ⟨fun n u h => ?_, fun i j a b hi hj ga gb e => ?_, w.tab, fun a ha => ⟨(w.prv a (.inl ha)).1, fun z => ?_⟩⟩
  · rcases getE_snoc h with ⟨hl, hu⟩ | ⟨rfl, rfl⟩
    · rw [ext1_ne (Nat.ne_of_lt hl)]
      have q := w.ok n u hu
      cases u with
      | gone => trivial
      | lst ys => obtain ⟨us, h1, h2⟩ := q; exact ⟨us, h1, rpl h2⟩
      | dct ys => obtain ⟨us, h1, h2⟩ := q; exact ⟨us, h1, Paired.mapP h2 fun _ _ q => ⟨q.1, rp q.2⟩⟩
      | dtp _ ys => obtain ⟨us, h1, h2⟩ := q; exact ⟨us, h1, Paired.mapP h2 fun _ _ q => ⟨q.1, rp (x := .d _) q.2.1, q.2.2.imp fun _ z => ⟨z.1, rp z.2⟩⟩⟩
    · rw [ext1_same]
      exact ⟨vs, hD, rpl r⟩
  · rcases getE_snoc hi with ⟨h1, h2⟩ | ⟨rfl, rfl⟩ <;> rcases getE_snoc hj with ⟨h3, h4⟩ | ⟨rfl, rfl⟩
    · rw [ext1_ne (Nat.ne_of_lt h1), ext1_ne (Nat.ne_of_lt h3)] at e
      exact w.inj i j a b h2 h4 ga gb e
    · rw [ext1_ne (Nat.ne_of_lt h1), ext1_same] at e
      exact absurd e (nD _ _ h2 ga)
    · rw [ext1_ne (Nat.ne_of_lt h3), ext1_same] at e
      exact absurd e.symm (nD _ _ h4 gb)
    · rfl
  · rcases live a z with z | z
    · exact (w.prv a (.inl ha)).2 z
    · subst z; exact hn ha
theorem To.own {S1 : Store} {H1 : Hp} {m1 : Nat → Addr} (t : To P S H m S1 H1 m1) {D : Addr} {u : SO} (hD : H D = none) : To P S H m (S1 ++ [u]) H1 (ext1 m1 S1.length D) where
  keep := t.keep
  ext := fun n h => by rw [ext1_ne (Nat.ne_of_lt (Nat.lt_of_lt_of_le h t.le))]; exact t.ext n h
  le := by rw [List.length_append]; exact Nat.le_trans t.le (Nat.le_add_right _ _)
  live := fun a z => (live_snoc z).elim (t.live a) fun e => .inr (by rw [e]; exact hD)
  some_ := t.some_

/-! ### list comprehensions -/
abbrev BIx (ι : Type) := ι × Shared × Hp × Addr × List (Str × Addr) × List Addr
/-- the contexts of a comprehension's block -/
def blkX (X : ι → Cx) (scope : Scope) : BIx ι → Cx := fun j => (X j.1).blk j.2.1 j.2.2.1 scope (compEnvC scope j.2.2.2.2.1 j.2.2.2.1 (X j.1).env) j.2.2.2.2.2
theorem Fam.blk (F : Fam X K N) (scope : Scope) : Fam (blkX X scope) K N := ⟨fun j => F.K j.1, fun j => F.calm j.1, fun j => F.hu j.1, F.nd, fun j => F.N j.1⟩
abbrev Wn : WX := fun _ _ _ _ => False
def wipeR (ρ : Rho) : List Nat → Rho
  | [] => ρ
  | v :: vs => (wipeR ρ vs).set v none
theorem EnvR.none {ρ : Rho} (i : Nat) (e : EnvR K P S H m ρ σ) : EnvR K P S H m (ρ.set i none) (σ.set i none) := by
  refine ⟨by rw [List.length_set, List.length_set]; exact e.1, fun j y h => ?_⟩
  by_cases q : i = j
  · subst q
    by_cases hl : i < ρ.length
    · rw [List.getElem?_set_self hl] at h; cases h
    · rw [List.getElem?_eq_none (by rw [List.length_set]; omega)] at h; cases h
  · rw [List.getElem?_set_ne q] at h ⊢
    exact e.2 j y h
theorem EnvR.wipe {ρ : Rho} (e : EnvR K P S H m ρ σ) : ∀ vs : List Nat, EnvR K P S H m (wipeR ρ vs) (L2.wipe σ vs)
  | [] => e
  | v :: vs => (EnvR.wipe e vs).none v
def Res.bindN {α β : Type} (r : Res α) (k : α → Store → Res β) : Res β := match r with
  | .ok a S => k a S
  | _ => .bad
theorem Post.stepN {α β γ δ : Type} {S : Store} {H : Hp} {m : Nat → Addr} {σ σ' : L2.St} {W W' : WX} {Rel : Store → Hp → (Nat → Addr) → β → α → Prop} {RelC : Store → Hp → (Nat → Addr) → δ → γ → Prop} {P P' : Addr → Prop} {T : List Addr} {S0 : Store} {H0 : Hp} {m0 : Nat → Addr} {K : PySem.W.Frag}
    {r : Res α} {k : α → Store → Res γ} {Q : δ → Hp → Prop} {Q1 : β → Hp → Prop} (h : Post K T P RelC S0 H0 m0 σ W (r.bindN k) Q)
    (j : ∀ S1 H1 m1 v x, To P' S H m S1 H1 m1 → Wd K P' S1 H1 m1 T → Rel S1 H1 m1 v x → Post K T P RelC S0 H0 m0 σ W (k x S1) Q → Q1 v H1) : Post K T P' Rel S H m σ' W' r Q1 := by
  cases r with
  | bad => exact h
  | ok x S' => exact fun H' m' v a w r => j S' H' m' v x a w r h
  | exc e S' => exact h.elim
structure DTs (X : ι → Cx) (K : PySem.W.Frag) (T : List Addr) (W : WX) (ifs : List Expr) (f : BF) : Prop where
  ex : ∃ t : TT, (∀ i, PTs (X i) ifs t) ∧ ∀ P ρ S H m σ Q, Wd K P S H m T → EnvR K P S H m ρ σ → Post K T P RelB S H m σ W (f ρ S) Q → t σ H Q
def yesF : BF := fun _ S => .ok true S
theorem dts_nil : DTs X K T W [] yesF := ⟨tYes, fun _ => pts_nil, fun P ρ S H m σ Q w er h => Post.done (Rel := RelB) (v := true) w h rfl⟩
theorem dts_one (h : DT X K T W c ba) : DTs X K T W [c] ba := by
  obtain ⟨t, pt, ht⟩ := h.ex
  exact ⟨t, fun i => pts_one (pt i), ht⟩
def lcL (g : GF) (t : BF) (e : EF) (ρ : Rho) : List Itm → Store → Res (List EV)
  | [], S => .ok [] S
  | it :: r, S => match g it ρ with
    | none => .bad
    | some ρ1 => (t ρ1 S).bindN fun b S1 => if b = true then (e ρ1 S1).bindN fun y S2 => (lcL g t e ρ r S2).bindN fun ys S3 => .ok (y :: ys) S3 else lcL g t e ρ r S1
def lcF (mk : List EV → Store → Res EV) (f : IF) (g : GF) (t : BF) (e : EF) (vs : List Nat) : EF := fun ρ S => (f ρ S).bind fun its S1 => (lcL g t e (wipeR ρ vs) its S1).bindN mk
/-- how the new list is handed out -/
def MkOk (K : PySem.W.Frag) (T : List Addr) (mk : List EV → Store → Res EV) : Prop :=
  ∀ {P : Addr → Prop} {S S0 : Store} {H H0 : Hp} {m m0 : Nat → Addr} {σ : L2.St} {W : WX} {D : Addr} {vs : List V} {xs : List EV} {Q : VK}, To P S0 H0 m0 S H m → H0 D = none → Wd K (Plus P D) S H m T → ¬ P D → H D = some (.lst vs) → RpL K (Plus P D) S H m vs xs →
    Post K T P (RelE K P) S0 H0 m0 σ W (mk xs S) Q → Q (.ref D) H
theorem mkok_lst : MkOk K T mkLst := by
  intro P S S0 H H0 m m0 σ W D vs xs Q t hD w hn hd r h
  unfold mkLst at h
  split at h
  · rename_i ds q
    obtain rfl := evs_of q
    split at h
    · exact h H m (.ref D) t w.endP (Dq.endP w hn hd r)
    · exact h.elim
  · exact h.elim
theorem mkok_own : MkOk K T mkOwn := by
  intro P S S0 H H0 m m0 σ W D vs xs Q t hD w hn hd r h
  unfold mkOwn at h
  split at h
  · exact h H _ (.ref D) (t.own hD) (w.own hn hd r) ⟨by rw [ext1_same], by rw [List.length_append]; exact Nat.lt_succ_self _⟩
  · exact h.elim
def MkLen (mk : List EV → Store → Res EV) : Prop := ∀ xs S, sizeLine < xs.length → mk xs S = .bad
theorem mklen_lst : MkLen mkLst := fun xs S h => by
  unfold mkLst
  split
  · rename_i ds q
    obtain rfl := evs_of q
    rw [if_neg (by simpa [evs] using h)]
  · rfl
theorem mklen_own : MkLen mkOwn := fun xs S h => by
  unfold mkOwn
  rw [if_neg (by omega)]
theorem lc_run {P : Addr → Prop} {ρ : Rho} {S : Store} {H : Hp} {m : Nat → Addr} {σ : L2.St} {Q : VK} {mk : List EV → Store → Res EV} {f : IF} {tf : BF} {ef : EF} {vs : List Nat} {wi : TI} {u : TG} {tt : TT} {te : TE}
    (hmk : MkOk K T mk) (hml : MkLen mk) (hws : ∀ j ∈ ws, j ∈ vs)
    (hI : ∀ P ρ S H m σ R, Wd K P S H m T → EnvR K P S H m ρ σ → Post K T P (RelW K T P) S H m σ W (f ρ S) R → wi σ H R)
    (hu : ∀ P ρ ρ' S H m σ v it (Q : L2.St → Hp → Prop), Wd K P S H m T → EnvR K P S H m ρ σ → RpI K P S H m v it → g it ρ = some ρ' → (∀ σ', EnvR K P S H m ρ' σ' → Same ws σ σ' → Q σ' H) → u v σ H Q)
    (hT : ∀ P ρ S H m σ Q, Wd K P S H m T → EnvR K P S H m ρ σ → Post K T P RelB S H m σ Wn (tf ρ S) Q → tt σ H Q)
    (hE : ∀ P ρ S H m σ Q, Wd K P S H m T → EnvR K P S H m ρ σ → Post K T P (RelE K P) S H m σ Wn (ef ρ S) Q → te σ H Q)
    (w : Wd K P S H m T) (er : EnvR K P S H m ρ σ) (h : Post K T P (RelE K P) S H m σ W (lcF mk f g tf ef vs ρ S) Q) : tLc wi u tt te vs σ H Q := by
  refine hI P ρ S H m σ _ w er (Post.step h fun S1 H1 m1 J its t1 w1 r1 h1 => ?_)
  have er1 := er.to t1
  intro D hD
  have hnD : ¬ P D := fun z => (w1.prv D z).1 hD
  have w2 : Wd K (Plus P D) S1 (upd H1 D (.lst [])) m1 T := w1.priv hD
  have e2 : EnvR K (Plus P D) S1 (upd H1 D (.lst [])) m1 (wipeR ρ vs) (L2.wipe σ vs) := EnvR.upP (EnvR.prv (plus_ok hD) (er1.wipe vs))
  -- what holds at the turns
  let Inv := fun (i : Nat) (H' : Hp) => ∃ S' m' accV acc, To P S1 H1 m1 S' H' m' ∧ Wd K (Plus P D) S' H' m' T ∧ EnvR K (Plus P D) S' H' m' (wipeR ρ vs) (L2.wipe σ vs) ∧ H' D = some (.lst accV) ∧ RpL K (Plus P D) S' H' m' accV acc ∧
    Post K T P (RelE K P) S1 H1 m1 σ W ((lcL g tf ef (wipeR ρ vs) (its.drop i) S').bindN fun ys S3 => mk (acc ++ ys) S3) Q
  refine ⟨fun i k H' => k = its.length - i ∧ i ≤ its.length ∧ Inv i H', ⟨_, rfl, Nat.zero_le _, S1, m1, [], [], To.priv To.refl hD, w2, e2, upd_same, .nil, ?_⟩, ?_⟩
  · simpa using h1
  rintro i k H2 ⟨rfl, hi, S2, m2, accV, acc, t2, w2, e2, d2, ra, h2⟩
  obtain ⟨stop, go⟩ := r1 (Plus P D) S2 H2 m2 i (plus_ok hD) t2 w2
  by_cases hl : i < its.length
  · refine .inr ?_
    obtain ⟨g1, g2⟩ := go its[i] (List.getElem?_eq_getElem hl)
    rw [List.drop_eq_getElem_cons hl] at h2
    unfold lcL at h2
    cases q : g its[i] (wipeR ρ vs) with
    | none => simp only [q] at h2; exact h2.elim
    | some ρ3 =>
      simp only [q] at h2
      refine ⟨g1, Inv (i + 1), fun H' z => ⟨_, by omega, rfl, hl, z⟩, fun x H3 y3 => ?_⟩
      obtain ⟨t3, w3, r3⟩ := g2 x H3 y3
      have e3 := e2.to t3
      refine hu (Plus P D) (wipeR ρ vs) ρ3 S2 H3 m2 _ x its[i] _ w3 e3 r3 q fun σ4 e4 s4 => ⟨?_, ?_⟩
      · rw [s4.wipe hws]
        apply List.ext_getElem?
        intro j
        rw [wipe_get, wipe_get, L2.wipe_length]
        by_cases z : j ∈ vs ∧ j < σ.length
        · rw [if_pos z, if_pos z]
        · rw [if_neg z, if_neg z]
      have kD : ∀ {S' : Store} {H' : Hp} {m' : Nat → Addr}, To (Plus P D) S2 H3 m2 S' H' m' → H3 D = some (.lst accV) → H' D = some (.lst accV) := fun t e => t.keep D _ e (w3.prv D (.inr rfl)).2 fun ps z => by cases z
      have d3 : H3 D = some (.lst accV) := t3.keep D _ d2 (w2.prv D (.inr rfl)).2 fun ps z => by cases z
      refine hT (Plus P D) ρ3 S2 H3 m2 σ4 _ w3 e4 ?_
      cases qt : tf ρ3 S2 with
      | bad => rw [qt] at h2; exact h2
      | exc _ _ => rw [qt] at h2; exact h2.elim
      | ok b S5 =>
        rw [qt] at h2
        simp only [Res.bindN] at h2
        intro H5 m5 b' t5 w5 eb
        obtain rfl : b' = b := eb
        have t25 := t2.trans (To.prv (t3.trans t5))
        cases b' with
        | false =>
          simp only [Bool.false_eq_true, if_false] at h2 ⊢
          exact ⟨S5, m5, accV, acc, t25, w5, (e2.to t3).to t5, kD t5 d3, t5.rpL (t3.rpL ra), h2⟩
        | true =>
          simp only [if_true] at h2 ⊢
          refine hE (Plus P D) ρ3 S5 H5 m5 σ4 _ w5 (e4.to t5) ?_
          cases qe : ef ρ3 S5 with
          | bad => rw [qe] at h2; exact h2
          | exc _ _ => rw [qe] at h2; exact h2.elim
          | ok y S6 =>
            rw [qe] at h2
            simp only at h2
            intro H6 m6 yv t6 w6 ry
            have d6 := kD (t5.trans t6) d3
            have ra6 : RpL K (Plus P D) S6 H6 m6 (accV ++ [yv]) (acc ++ [y]) := (t6.rpL (t5.rpL (t3.rpL ra))).append (.cons ry .nil)
            -- its length
            have hz : accV.length < sizeLine := by
              rw [RpL.length ra]
              cases ql : lcL g tf ef (wipeR ρ vs) (its.drop (i + 1)) S6 with
              | bad => rw [ql] at h2; exact h2.elim
              | exc _ _ => rw [ql] at h2; exact h2.elim
              | ok ys S7 =>
                rw [ql] at h2
                simp only at h2
                by_cases z : acc.length < sizeLine
                · exact z
                · rw [hml _ _ (by rw [List.length_append, List.length_cons]; omega)] at h2
                  exact h2.elim
            refine ⟨accV, d6, hz, S6, m6, accV ++ [yv], acc ++ [y], To.priv (t25.trans (To.prv t6)) hD, w6.upP (fun ps z => by rw [d6] at z; cases z), EnvR.upP (((e2.to t3).to t5).to t6), upd_same, RpL.upP ra6, ?_⟩
            cases ql : lcL g tf ef (wipeR ρ vs) (its.drop (i + 1)) S6 with
            | bad => rw [ql] at h2; exact h2.elim
            | exc _ _ => rw [ql] at h2; exact h2.elim
            | ok ys S7 =>
              rw [ql] at h2
              simp only [Res.bindN] at h2 ⊢
              rw [List.append_assoc]
              exact h2
  · refine .inl ⟨stop (by omega), ?_⟩
    rw [List.drop_eq_nil_of_le (by omega)] at h2
    simp only [lcL, Res.bindN, List.append_nil] at h2
    exact hmk t2 hD w2 hnD d2 ra h2
theorem de_lcW (F : Fam X K N) {mk : List EV → Store → Res EV} (hmk : MkOk K T mk) (hml : MkLen mk) {elt iter : Expr} {ifs : List Expr} {scope : Scope} {f : IF} {tf : BF} {ef : EF} (own : List (Str × Nat)) (hi : DI X K T W tg iter f) (hg : DG (blkX X scope) K T tg ws g) (ht : DTs (blkX X scope) K T Wn ifs tf) (he : DE (blkX X scope) K T Wn elt ef)
    (ok : ∀ i, BlkOk N (X i).env.scope scope own) (hws : ∀ j ∈ ws, j ∈ own.map (·.2) := by decide) (hs : ∀ i x, foldedSetIterable iter (X i).env x = pure x := by intro _ _; rfl) :
    DE X K T W (.ListComp elt [⟨tg, iter, ifs, 0⟩] scope pos) (lcF mk f g tf ef (own.map (·.2))) := by
  obtain ⟨wi, pi, hI⟩ := hi.ex
  obtain ⟨u, pu, hu⟩ := hg.ex
  obtain ⟨tt, ptt, hT⟩ := ht.ex
  obtain ⟨te, pte, hE⟩ := he.ex
  exact ⟨tLc wi u tt te (own.map (·.2)), fun i => pe_lc (F.calm i) (by rw [F.N i]; exact F.nd) (pi i) (by rw [F.N i]; exact ok i) (fun s H C cl fp => pu (i, s, H, C, cl, fp)) (fun s H C cl fp => ptt (i, s, H, C, cl, fp)) (fun s H C cl fp => pte (i, s, H, C, cl, fp)) (hs i),
    fun P ρ S H m σ Q w er h => lc_run hmk hml hws hI hu hT hE w er h⟩
/-- name = [..] on one line -/
theorem ds_setLcW (F : Fam X K N) {mk : List EV → Store → Res EV} (hmk : MkOk K T mk) (hml : MkLen mk) {elt iter : Expr} {ifs : List Expr} {scope : Scope} {f : IF} {tf : BF} {ef : EF} {p spos : Pos} {y : Str} (i : Nat) (own : List (Str × Nat)) (hi : DI X K T W tg iter f) (hg : DG (blkX X scope) K T tg ws g) (ht : DTs (blkX X scope) K T Wn ifs tf) (he : DE (blkX X scope) K T Wn elt ef)
    (ok : ∀ i, BlkOk N (X i).env.scope scope own) (hN : N[i]? = some y := by rfl) (hy : ∀ i, (X i).env.scope.names.lookup y = some .local := by intro _; rfl) (hk : ∀ i, (X i).env.scope.kind = .function := by intro _; rfl) (hl : (p.line == pos.line) = true := by rfl)
    (hna : (scope.names.any fun (n, k) => n == y && (k == .local || k == .cell)) = false := by rfl) (hws : ∀ j ∈ ws, j ∈ own.map (·.2) := by decide) (hs : ∀ i x, foldedSetIterable iter (X i).env x = pure x := by intro _ _; rfl) :
    DS X K T W (.Assign [.Name y p] (.ListComp elt [⟨tg, iter, ifs, 0⟩] scope pos) spos) (setF i (lcF mk f g tf ef (own.map (·.2)))) := by
  obtain ⟨wi, pi, hI⟩ := hi.ex
  obtain ⟨u, pu, hu⟩ := hg.ex
  obtain ⟨tt, ptt, hT⟩ := ht.ex
  obtain ⟨te, pte, hE⟩ := he.ex
  refine ⟨tAsg (tLc wi u tt te (own.map (·.2))) (gName i), fun j => ps_setLc (F.calm j) (by rw [F.N j]; exact F.nd) (by rw [F.N j]; exact hN) (hy j) (sw_true (hk j) (hy j) hl hna) (pi j) (by rw [F.N j]; exact ok j) (fun s H C cl fp => pu (j, s, H, C, cl, fp)) (fun s H C cl fp => ptt (j, s, H, C, cl, fp)) (fun s H C cl fp => pte (j, s, H, C, cl, fp)) (hs j),
    fun P ρ S H m σ D w er h => ?_⟩
  have h2 : Post K T P (RelE K P) S H m σ W (lcF mk f g tf ef (own.map (·.2)) ρ S) (fun x H1 => D.nx (σ.set i (some x)) H1) := PostS.step (Rel := RelE K P) er h fun S1 H1 m1 v x t1 w1 r1 h1 => PostS.nx w1 ((er.to t1).set i r1) h1
  exact lc_run hmk hml hws hI hu hT hE w er h2
end
end Z
set_option maxRecDepth 100000
set_option maxHeartbeats 1000000
/-! Z9: generator expressions: the context of the body, its run. -/
namespace Z
open PySem PySem.Spec PyProof.Rows L2 GenW

/-! ### the context -/
def genv (X : Cx) (scope : Scope) (C : Addr) (code : Value) : Env := genEnv scope (cloFrom X.env.cells scope.names []) C code builtinsNs X.env
def gex (X : Cx) (s : Shared) (H : Hp) (scope : Scope) (C : Addr) (code : Value) (A : Around) (fp : List Addr) (pn : List (Addr × Obj)) : Cx :=
  { X with s_0 := s, H_0 := H, A := A, env := genv X scope C code, outer := X.stack, stack := genv X scope C code :: X.stack, ex := fp, fn := fun _ => false, pn := pn, xe := fun _ _ => False }
structure GOk (N : List Str) (sc scope : Scope) (own : List (Str × Nat)) : Prop where
  blk : BlkOk N sc scope own
  co : scope.isCoroutine = false
  cell : ∀ y ∈ scope.names, y.2 ≠ .cell
  dot : scope.names.lookup (".0" : Str) = some NameKind.local
def gokC (N : List Str) (sc scope : Scope) (own : List (Str × Nat)) : Bool := blkC N sc scope own && !scope.isCoroutine && (scope.names.all fun y => decide (y.2 ≠ .cell)) && decide (scope.names.lookup (".0" : Str) = some NameKind.local)
theorem gok_by {N : List Str} {sc scope : Scope} {own : List (Str × Nat)} (h : gokC N sc scope own = true) : GOk N sc scope own := by
  unfold gokC at h
  simp only [Bool.and_eq_true, Bool.not_eq_true', List.all_eq_true, decide_eq_true_eq] at h
  exact ⟨blkOk_by h.1.1.1, h.1.1.2, h.1.2, h.2⟩
section
variable {X : Cx} {pins : List (Addr × Obj)} {σ : L2.St} {H : Hp} {s s2 : Shared}
theorem gex_start {scope : Scope} {own : List (Str × Nat)} {fp : List Addr} {code : Value} {A' : Around} {pn : List (Addr × Obj)} (I : Inv X pins σ H s) (ok : GOk X.N X.env.scope scope own) (hN : X.N.Nodup) (hfp : ∀ b ∈ fp, FpOk X pins H b ∧ b < s.heap.objs.size)
    (hA : A'.handled = none) (hfr : A'.frames = some (genv X scope s.heap.objs.size code :: X.stack)) (kp : ∀ b o, s.heap.get? b = some o → s2.heap.get? b = some o) (hns : ∃ m, s2.heap.Ns s.heap.objs.size m) (os : s2.os = s.os) (bare : AllBare s2.gens)
    (hpn : ∀ p ∈ pn, s2.heap.get? p.1 = some p.2 ∧ s.heap.objs.size < p.1 ∧ ∀ v, p.2.data ≠ .cell v) :
    Inv (gex X s H scope s.heap.objs.size code A' fp pn) [] (L2.wipe σ (own.map (·.2))) H s2 := by
  have hfree : ∀ y ∈ scope.names, y.2 = .free → ∃ c, X.env.cells.lookup y.1 = some c := fun y hy e => by
    rcases ok.blk.free y hy e with k | k
    · exact I.ok.has _ (.inl k)
    · exact I.ok.has _ (.inr k)
  have cm : ∀ {y c}, (y, c) ∈ cloFrom X.env.cells scope.names [] → X.env.cells.lookup y = some c ∧ c < s.heap.objs.size := fun {y c} hm => by
    rcases cloFrom_mem hm with hm | ⟨h1, rfl⟩
    · cases hm
    · obtain ⟨c, hc⟩ := hfree _ h1 rfl
      rw [hc]
      obtain ⟨w, z⟩ := I.cell _ _ hc
      exact ⟨rfl, z.lt⟩
  have mem : ∀ {y c}, (genv X scope s.heap.objs.size code).cells.lookup y = some c → X.env.cells.lookup y = some c ∧ c < s.heap.objs.size := fun {y c} e => cm (PySem.mem_of_lookup e)
  have look : ∀ {y}, scope.names.lookup y = some .free → ∃ c, (genv X scope s.heap.objs.size code).cells.lookup y = some c ∧ X.env.cells.lookup y = some c := fun {y} hl => by
    have hy : (y, NameKind.free) ∈ scope.names := PySem.mem_of_lookup hl
    obtain ⟨c', e'⟩ := mem_lookup (cloFrom_has (cells := X.env.cells) (acc := []) hy)
    exact ⟨c', e', (cm (PySem.mem_of_lookup e')).1⟩
  have young : ∀ b, s.heap.objs.size ≤ b → H b = none ∧ b ∉ frs X.stack := fun b hb => by
    refine ⟨I.hok.fresh hb, fun z => ?_⟩
    rcases List.mem_cons.mp (I.stkSub b z) with z | z
    · have : X.env.locals < s.heap.objs.size := I.lt
      rw [z] at hb
      exact absurd (Nat.lt_of_lt_of_le this hb) (Nat.lt_irrefl _)
    · exact I.nofs hb z
  have okB : (gex X s H scope s.heap.objs.size code A' fp pn).Ok := by
    refine ⟨I.ok.mod, ok.blk.kind, I.ok.glob, rfl, Nat.le_refl _, fun y z c e1 e2 => I.ok.inj y z c (mem e1).1 (mem e2).1, fun y hy => ?_, fun y c z e => ?_, fun _ => hA, hfr, .inr ⟨rfl, rfl⟩, fun b hb => ⟨Nat.ne_of_lt (hfp b hb).2, fun y c e z => (hfp b hb).1.2.2.2.2.1 y c (mem e).1 z⟩,
      I.bs, Nat.le_trans I.ok.bsz I.sz, fun b o e hb => ?_, fun b hb z => ?_, I.stack, I.stkFree⟩
    · rcases hy with hy | hy
      · exact absurd rfl (ok.cell _ (PySem.mem_of_lookup (show scope.names.lookup y = some .cell from hy)))
      · obtain ⟨c, h1, _⟩ := look (show scope.names.lookup y = some .free from hy)
        exact ⟨c, h1⟩
    · cases z
    · rcases (hfp b hb).1.2.2.2.1 with z | z
      · exact I.ok.noex b o e z
      · exact absurd (Nat.lt_of_lt_of_le (Heap.lt_size e) (Nat.le_trans I.ok.bsz z)) (Nat.lt_irrefl _)
    · rcases List.mem_cons.mp (I.stkSub b z) with z | z
      · exact (hfp b hb).1.2.1 z
      · exact (hfp b hb).1.2.2.1 z
  obtain ⟨m, hn⟩ := hns
  refine ⟨okB, os, bare, Un.kept kp, ⟨m, hn, fun i y av e1 e2 e3 => ?_⟩, fun y c e => ?_, I.hok.fresh (Nat.le_refl _), fun y c e => I.freeC y c (mem e).1, fun p hp => ?_, I.hok.kept kp, by rw [L2.wipe_length]; exact I.len⟩
  · obtain ⟨e2, hne⟩ := wipe_some e2
    have no : ∀ k, scope.names.lookup y = some k → ¬ (k = .local ∨ k = .cell) := fun k e hh => by
      rcases ok.blk.own _ (PySem.mem_of_lookup e) hh with e' | e'
      · obtain ⟨p, hp, hpy⟩ := List.mem_map.mp e'
        have e3 := ok.blk.ix p hp
        have : p.1 = y := hpy
        rw [this] at e3
        exact hne (List.mem_map.mpr ⟨p, hp, nodup_ix hN e3 e1⟩)
      · exact e' (List.mem_of_getElem? e1)
    have hfr : scope.names.lookup y = some .free := by
      have e3 : Vis scope y := e3
      rcases e3 with e3 | e3 | e3
      · exact absurd (.inl rfl) (no _ e3)
      · exact absurd (.inr rfl) (no _ e3)
      · exact e3
    obtain ⟨m, hn, hl⟩ := I.loc
    have hvis : Vis X.env.scope y := (ok.blk.free _ (PySem.mem_of_lookup hfr) rfl).elim (fun k => .inr (.inl k)) (fun k => .inr (.inr k))
    obtain ⟨w, r, q⟩ := hl i y av e1 e2 hvis
    refine ⟨w, r, .inr ⟨.inr hfr, ?_⟩⟩
    obtain ⟨c, h1, h2⟩ := look hfr
    rcases q with ⟨k, _⟩ | ⟨_, c', e', z⟩
    · have k : X.env.scope.names.lookup y = some .local := k
      rcases ok.blk.free _ (PySem.mem_of_lookup hfr) rfl with k' | k' <;> rw [show X.env.scope.names.lookup y = _ from k'] at k <;> cases k
    · rw [h2] at e'; cases e'
      exact ⟨c, h1, z.keeps kp⟩
  · obtain ⟨w, z⟩ := I.cell y c (mem e).1
    exact ⟨w, z.keeps kp⟩
  · have hp : p ∈ pn ++ [] := hp
    rw [List.append_nil] at hp
    obtain ⟨h1, h2, h3⟩ := hpn p hp
    exact ⟨h1, (young _ (Nat.le_of_lt h2)).1, Nat.ne_of_gt h2, (young _ (Nat.le_of_lt h2)).2, h3⟩
end

/-! ### what it hands out, known beforehand -/
inductive Tr where
  | bad
  | done (S : Store)
  | yld (x : EV) (S : Store) (r : Tr)
def Tr.len : Tr → Nat
  | .bad => 0
  | .done _ => 0
  | .yld _ _ r => r.len + 1
/-- ys, then the rest -/
inductive Cut : Tr → List EV → Tr → Prop
  | refl (t : Tr) : Cut t [] t
  | step {x : EV} {S : Store} {r t : Tr} {ys : List EV} : Cut r ys t → Cut (.yld x S r) (x :: ys) t
theorem Cut.len {a : Tr} {ys : List EV} {t : Tr} (h : Cut a ys t) : a.len = ys.length + t.len := by
  induction h with
  | refl t => simp
  | step _ ih => simp only [Tr.len, List.length_cons, ih]; omega
theorem Cut.snoc {a : Tr} {ys : List EV} {x : EV} {S : Store} {r : Tr} (h : Cut a ys (.yld x S r)) : Cut a (ys ++ [x]) r := by
  generalize e : Tr.yld x S r = t at h
  induction h with
  | refl t => subst e; exact .step (.refl _)
  | step _ ih => exact .step (ih e)
theorem Cut.uniq {a : Tr} {ys zs : List EV} {t u : Tr} (h : Cut a ys t) (k : Cut a zs u) (e : t.len = u.len) : ys = zs ∧ t = u := by
  have hl : ys.length = zs.length := by
    have h1 := h.len
    have h2 := k.len
    omega
  clear e
  induction h generalizing zs with
  | refl t =>
    cases k with
    | refl => exact ⟨rfl, rfl⟩
    | step _ => simp at hl
  | step _ ih =>
    cases k with
    | refl => simp at hl
    | step k =>
      obtain ⟨e1, e2⟩ := ih k (by simpa using hl)
      exact ⟨by rw [e1], e2⟩
def genT (g : GF) (t : BF) (e : EF) (ρ : Rho) : List Itm → Store → Tr
  | [], S => .done S
  | it :: r, S => match g it ρ with
    | none => .bad
    | some ρ1 => match t ρ1 S with
      | .ok false S1 => genT g t e ρ r S1
      | .ok true S1 => match e ρ1 S1 with
        | .ok y S2 => .yld y S2 (genT g t e ρ r S2)
        | _ => .bad
      | _ => .bad

/-! ### the sleep -/
/-- a consumer's list: it gathers the items, or holds their sum -/
structure Csm where
  a : Addr
  sum : Bool
/-- how the list goes on behind an item -/
def Cnx (So : Option Csm) (v : Value) (acc acc' : Array Value) : Prop := match So with
  | some ⟨_, true⟩ => ∀ n t i u, acc = #[.int n t] → v = .int i u → ∃ t', acc' = #[.int (n + i) t']
  | _ => acc' = acc.push v
/-- while it sleeps, the consumer may change its list at So -/
structure SlpO (So : Option Csm) (v : Value) (s s' : Shared) : Prop where
  os : s'.os = s.os
  bare : AllBare s'.gens
  keep : ∀ b o, (∀ S, So = some S → S.a ≠ b) → s.heap.get? b = some o → s'.heap.get? b = some o
  own : ∀ S, So = some S → ∀ acc c, s.heap.get? S.a = some (lstObj acc c) → ∃ acc' c', Cnx So v acc acc' ∧ s'.heap.get? S.a = some (lstObj acc' c')
def spin (So : Option Csm) (acc : Array Value) (c : Nat) : List (Addr × Obj) := match So with
  | some S => [(S.a, lstObj acc c)]
  | none => []
theorem spin_mem {So : Option Csm} {acc : Array Value} {c : Nat} {p : Addr × Obj} (h : p ∈ spin So acc c) : (∃ S, So = some S ∧ S.a = p.1) ∧ p.2 = lstObj acc c := by
  cases So with
  | none => cases h
  | some S => rw [List.mem_singleton.mp h]; exact ⟨⟨S, rfl, rfl⟩, rfl⟩
/-- where the consumer's list lies -/
structure SoOk (X : Cx) (So : Option Csm) : Prop where
  young : ∀ S, So = some S → X.s_0.heap.objs.size ≤ S.a ∧ S.a ≠ X.env.locals ∧ (∀ x c, X.env.cells.lookup x = some c → c ≠ S.a) ∧ ∀ p ∈ X.pn, p.1 ≠ S.a
  noex : ∀ S, So = some S → S.a ∉ X.ex
/-- what stands in it behind the items ys -/
def CsR (So : Option Csm) (K : PySem.W.Frag) (P : Addr → Prop) (S : Store) (H : Hp) (m : Nat → Addr) (acc : Array Value) (ys : List EV) : Prop := match So with
  | some ⟨_, true⟩ => ∀ ns : List Int, ys = evs (ns.map .int) → ∃ t, acc = #[.int ns.sum t]
  | _ => ∃ us, Vals us acc.toList ∧ RpL K P S H m us ys
theorem CsR.col {So : Option Csm} {A : Addr} {K : PySem.W.Frag} {P : Addr → Prop} {S : Store} {H : Hp} {m : Nat → Addr} {acc : Array Value} {ys : List EV} (hS : So = some ⟨A, false⟩) (h : CsR So K P S H m acc ys) : ∃ us, Vals us acc.toList ∧ RpL K P S H m us ys := by
  subst hS
  exact h
theorem CsR.to {So : Option Csm} {K : PySem.W.Frag} {P : Addr → Prop} {S S1 : Store} {H H1 : Hp} {m m1 : Nat → Addr} {acc : Array Value} {ys : List EV} (t : To P S H m S1 H1 m1) (h : CsR So K P S H m acc ys) : CsR So K P S1 H1 m1 acc ys := by
  rcases So with _ | ⟨a, b⟩
  · obtain ⟨us, r, q⟩ := h; exact ⟨us, r, t.rpL q⟩
  · cases b
    · obtain ⟨us, r, q⟩ := h; exact ⟨us, r, t.rpL q⟩
    · exact h
theorem CsR.step {So : Option Csm} {K : PySem.W.Frag} {P : Addr → Prop} {S : Store} {H : Hp} {m : Nat → Addr} {acc acc' : Array Value} {ys : List EV} {y : EV} {x : V} {v : Value} (rv : RelV x v) (ry : Rp K P S H m x y) (h : CsR So K P S H m acc ys) (n : Cnx So v acc acc') : CsR So K P S H m acc' (ys ++ [y]) := by
  have lc : (∃ us, Vals us acc.toList ∧ RpL K P S H m us ys) → acc' = acc.push v → ∃ us, Vals us acc'.toList ∧ RpL K P S H m us (ys ++ [y]) := fun ⟨us, r, q⟩ e => by
    subst e
    exact ⟨us ++ [x], by rw [Array.toList_push]; exact r.append (.cons rv .nil), q.append (.cons ry .nil)⟩
  rcases So with _ | ⟨a, b⟩
  · exact lc h n
  · cases b
    · exact lc h n
    · intro ns e
      have e2 : ys ++ [y] = (ns.map fun i => EV.d (.int i)) := by rw [e]; simp [evs]
      obtain ⟨l1, l2, e3, e4, e5⟩ := List.map_eq_append_iff.mp e2.symm
      obtain ⟨i, r, e6, e7, e8⟩ := List.map_eq_cons_iff.mp e5
      have e9 : r = [] := by simpa using e8
      subst e9
      subst e7
      cases ry
      obtain ⟨u, rfl⟩ : ∃ u, v = .int i u := rv
      obtain ⟨t, rfl⟩ := h l1 (by rw [← e4]; simp [evs])
      obtain ⟨t', rfl⟩ := n _ _ _ _ rfl rfl
      exact ⟨t', by rw [e3, e6]; simp⟩
def GJ (X : Cx) (So : Option Csm) (ip : List (Addr × Obj)) (R : Array Value → Prop) (σ : L2.St) (H : Hp) (s : Shared) : Prop :=
  ∃ (acc : Array Value) (c : Nat), R acc ∧ Inv X (spin So acc c ++ ip) σ H s
theorem GJ.woken {X : Cx} {So : Option Csm} {ip : List (Addr × Obj)} {R R' : Array Value → Prop} {v : Value} {σ : L2.St} {H : Hp} {s s' : Shared} (ok : SoOk X So) (hip : ∀ p ∈ ip, p.1 ∈ X.ex) (h : GJ X So ip R σ H s) (hR : ∀ acc acc', R acc → Cnx So v acc acc' → R' acc') (z : SlpO So v s s') :
    GJ X So ip R' σ H s' := by
  obtain ⟨acc, c, q, I⟩ := h
  have I0 : Inv X ip σ H s := I.pins_of fun p hp => I.pin p (List.mem_append_right _ (List.mem_append_right _ hp))
  have at_ : ∀ S, So = some S → s.heap.get? S.a = some (lstObj acc c) ∧ H S.a = none ∧ S.a ∉ X.fs := fun S e => by
    subst e
    obtain ⟨h1, h2, h3, h4, _⟩ := I.pin (S.a, lstObj acc c) (List.mem_append_right _ (List.mem_append_left _ List.mem_cons_self))
    exact ⟨h1, h2, h4⟩
  have nt : ∀ b u, H b = some u → ∀ S, So = some S → S.a ≠ b := fun b u e S hb hs => by rw [← hs, (at_ S hb).2.1] at e; cases e
  obtain ⟨z1, z2, z3, z4⟩ := z
  obtain ⟨hh, g, d, t, o⟩ := s'
  have ho : o = s.os := z1
  subst ho
  have nc : ∀ b, b ∉ (So.toList.map (·.a)) → ∀ S, So = some S → S.a ≠ b := fun b hb S e hs => hb (by rw [e, ← hs]; exact List.mem_singleton.mpr rfl)
  have mc : ∀ b, b ∈ (So.toList.map (·.a)) → ∃ S, So = some S ∧ S.a = b := fun b hb => by
    cases So with
    | none => cases hb
    | some S => exact ⟨S, rfl, (List.mem_singleton.mp hb).symm⟩
  have J : Inv X ip σ H { s with heap := hh, gens := g, drawn := d, toks := t } := by
    refine I0.step (g' := g) (t' := t) (d' := d) (ch := So.toList.map (·.a)) (fun b hb => ?_)
      (fun b ob _ _ hc q _ => z3 b ob (nc b hc) q) (fun b ob _ _ hc q _ => ⟨ob.slots, z3 b ob (nc b hc) q⟩) (fun _ _ _ _ n => n) (fun b ob hc q => ⟨ob, z3 b ob (nc b hc) q⟩)
      (fun _ _ q => q) (fun _ _ _ q => q) (fun b ps q => ⟨#[], by rw [q]; simp⟩) (fun m hm => ?_) (fun b u q => ?_) z2
    · obtain ⟨S, eS, rfl⟩ := mc b hb
      obtain ⟨y1, y2, y3, y4⟩ := ok.young S eS
      refine ⟨.inr y1, y2, y3, fun p hp => ?_⟩
      rcases List.mem_append.mp hp with hp | hp
      · exact y4 p hp
      · exact fun e => ok.noex S eS (by rw [← e]; exact hip p hp)
    · obtain ⟨ob, es, ep, ho, r⟩ := hm
      exact ⟨ob, es, ep, z3 _ ob (fun S e => (ok.young S e).2.1) ho, r⟩
    · refine (I0.hok b u q).stay (fun c v hc y => z3 c v ?_ y) (fun _ y => y) fun _ _ y => y
      rcases hc with y | y
      · rw [y]; exact nt b u q
      · exact nt c _ y
  cases So with
  | none => exact ⟨acc.push v, 0, hR acc _ q rfl, J⟩
  | some S =>
    obtain ⟨eS, hS0, hSf⟩ := at_ S rfl
    obtain ⟨acc', c', n, eS'⟩ := z4 S rfl acc c eS
    refine ⟨acc', c', hR acc acc' q n, J.pins_of fun p hp => ?_⟩
    rcases List.mem_append.mp hp with hp | hp
    · rw [List.mem_singleton.mp hp]
      exact ⟨eS', hS0, (ok.young S rfl).2.1, hSf, fun v q => by cases q⟩
    · exact J.pin p (List.mem_append_right _ hp)

/-! ### the run -/
section
variable {K : PySem.W.Frag} {T : List Addr} {P : Addr → Prop} {S1 : Store} {H1 : Hp} {m1 : Nat → Addr} {ws vs : List Nat}
/-- the abstract side where it sleeps or ends; ys: what is out, standing in the consumer's list -/
def GOut (X : Cx) (K : PySem.W.Frag) (T : List Addr) (P : Addr → Prop) (S1 : Store) (H1 : Hp) (m1 : Nat → Addr) (So : Option Csm) (ys : List EV) (S' : Store) (s : Shared) (k : Hp → (Nat → Addr) → Prop) : Prop :=
  ∃ H' m' ip σ', To P S1 H1 m1 S' H' m' ∧ Wd K P S' H' m' T ∧ GJ X So ip (fun acc => CsR So K P S' H' m' acc ys) σ' H' s ∧ k H' m'
def GYz (X : Cx) (K : PySem.W.Frag) (T : List Addr) (P : Addr → Prop) (S1 : Store) (H1 : Hp) (m1 : Nat → Addr) (So : Option Csm) (tr0 : Tr) : Protocol := fun n s₀ v s kap =>
  ∃ ys y S' r, Cut tr0 ys (.yld y S' r) ∧ r.len + 1 = n ∧ GOut X K T P S1 H1 m1 So ys S' s (fun H' m' => ∃ u, RelV u v ∧ Rp K P S' H' m' u y) ∧ ∀ s', SlpO So v s s' → r ≠ .bad → kap (.send .none) s'
def GRz (X : Cx) (K : PySem.W.Frag) (T : List Addr) (P : Addr → Prop) (S1 : Store) (H1 : Hp) (m1 : Nat → Addr) (So : Option Csm) (tr0 : Tr) : GenEnd := fun n s₀ r s =>
  r = .ok .next ∧ ∃ ys S', Cut tr0 ys (.done S') ∧ n = 1 ∧ GOut X K T P S1 H1 m1 So ys S' s (fun _ _ => True)
theorem seg_loopZ {X : Cx} {A : Around} {So : Option Csm} {tg elt iter : Expr} {ifs : List Expr} {scope : Scope} {pos : Pos} {it : Addr} {J : It} {fp : List Addr} {tn : Nat → Heap → Prop} {its : List Itm} {g : GF} {tf : BF} {ef : EF} {u : TG} {tt : TT} {te : TE} {tr0 : Tr} {ρ : Rho} {σ : L2.St}
    (hc : X.calm = true) (hxe : X.xe = fun _ _ => False) (hov : A.over (.compLoop (.GeneratorExp elt [⟨tg, iter, ifs, 0⟩] scope pos) 0 (.ref it) .none X.env) [] = X.A) (hco : X.env.scope.isCoroutine = false) (hex : X.ex = fp) (hpn : ∀ p ∈ X.pn, p.1 ∉ fp) (hS : SoOk X So) (hws : ∀ j ∈ ws, j ∈ vs)
    (T1 : Turn X.prog X.w X.K tg J fp it tn) (pg : PG X tg u) (pt : PTs X ifs tt) (pe : PE X elt te) (r1 : WalkI K T P S1 H1 m1 J its) (hσ : L2.wipe σ vs = σ)
    (hu : ∀ P ρ ρ' S H m σ v it (Q : L2.St → Hp → Prop), Wd K P S H m T → EnvR K P S H m ρ σ → RpI K P S H m v it → g it ρ = some ρ' → (∀ σ', EnvR K P S H m ρ' σ' → Same ws σ σ' → Q σ' H) → u v σ H Q)
    (hT : ∀ P ρ S H m σ Q, Wd K P S H m T → EnvR K P S H m ρ σ → Post K T P RelB S H m σ Wn (tf ρ S) Q → tt σ H Q)
    (hE : ∀ P ρ S H m σ Q, Wd K P S H m T → EnvR K P S H m ρ σ → Post K T P (RelE K P) S H m σ Wn (ef ρ S) Q → te σ H Q) :
    ∀ (k i : Nat) (s₀ s : Shared) (ys : List EV) (S' : Store) (H' : Hp) (m' : Nat → Addr), its.length - i = k → i ≤ its.length → To P S1 H1 m1 S' H' m' → Wd K P S' H' m' T → EnvR K P S' H' m' ρ σ → GJ X So [] (fun acc => CsR So K P S' H' m' acc ys) σ H' s →
      tn i s.heap → (∀ b ∈ fp, H' b = none) → Cut tr0 ys (genT g tf ef ρ (its.drop i) S') → genT g tf ef ρ (its.drop i) S' ≠ .bad →
      Seg (model X.prog X.w) A (GRz X K T P S1 H1 m1 So tr0) (GYz X K T P S1 H1 m1 So tr0) ((genT g tf ef ρ (its.drop i) S').len + 1) s₀
        (.compLoop (.GeneratorExp elt [⟨tg, iter, ifs, 0⟩] scope pos) 0 (.ref it) .none X.env) ((model X.prog X.w).den (.compLoop (.GeneratorExp elt [⟨tg, iter, ifs, 0⟩] scope pos) 0 (.ref it) .none X.env)) [] s := by
  have stat : ∀ {σ' : L2.St} {H' : Hp} {s' : Shared} {acc : Array Value} {c : Nat}, Inv X (spin So acc c ++ []) σ' H' s' → (∀ b ∈ fp, H' b = none) → ∀ b ∈ fp, FpOk X (spin So acc c ++ []) H' b := fun {σ' H' s' acc c} I' hn b hb =>
    ⟨hn b hb, (I'.ok.exf b (by rw [hex]; exact hb)).1, I'.ok.exfs b (by rw [hex]; exact hb), .inl (by rw [hex]; exact hb), fun x c e => (I'.ok.exf b (by rw [hex]; exact hb)).2 x c e, fun p hp => by
      rcases List.mem_append.mp hp with hp | hp
      · exact fun e => hpn p hp (by rw [e]; exact hb)
      · rw [List.append_nil] at hp
        obtain ⟨⟨S, e1, e2⟩, _⟩ := spin_mem hp
        exact fun e => hS.noex S e1 (by rw [e2, e, hex]; exact hb)⟩
  intro k
  induction k with
  | zero =>
    intro i s₀ s ys S' H' m' hk hi t w er gj st fr cut nb
    have hin : its.length ≤ i := by omega
    rw [List.drop_eq_nil_of_le hin] at cut nb ⊢
    obtain ⟨acc, c, ru, I⟩ := gj
    show Seg _ A _ _ _ s₀ _ ((compTurn (.GeneratorExp elt [⟨tg, iter, ifs, 0⟩] scope pos) 0 (.ref it) .none X.env).onRaise (leaving X.env)) [] s
    rw [compTurn_gen, Sem.onRaise_eq_wrap]
    refine seg_bind_wrap (wpAny_standAt ?_)
    refine seg_bind_wrap ?_
    rw [hov]
    have stop := (r1 P S' H' m' i (fun _ z => .inl z) t w).1 (Nat.le_antisymm hin hi)
    refine thnF (T1.done X rfl rfl rfl hc i _ s σ H' (fun _ _ => False) I (stat I fr) st stop) fun r s1 ⟨hr, I1⟩ => ?_
    subst hr
    exact seg_end (.ok .next) ⟨rfl, ys, S', cut, rfl, H', m', [], σ, t, w, ⟨acc, c, ru, I1⟩, trivial⟩
  | succ k ih =>
    intro i s₀ s ys S' H' m' hk hi t w er gj st fr cut nb
    have hl : i < its.length := by omega
    obtain ⟨acc, c, ru, I⟩ := gj
    obtain ⟨g1, g2⟩ := (r1 P S' H' m' i (fun _ z => .inl z) t w).2 its[i] (List.getElem?_eq_getElem hl)
    rw [List.drop_eq_getElem_cons hl] at cut nb ⊢
    unfold genT at cut nb ⊢
    cases q : g its[i] ρ with
    | none => simp only [q] at nb; exact absurd rfl nb
    | some ρ3 =>
      simp only [q] at cut nb ⊢
      show Seg _ A _ _ _ s₀ _ ((compTurn (.GeneratorExp elt [⟨tg, iter, ifs, 0⟩] scope pos) 0 (.ref it) .none X.env).onRaise (leaving X.env)) [] s
      rw [compTurn_gen, Sem.onRaise_eq_wrap]
      refine seg_bind_wrap (wpAny_standAt ?_)
      refine seg_bind_wrap ?_
      rw [hov]
      refine thnF (T1.item X rfl rfl rfl hc i _ s σ H' (fun _ _ => False) I (stat I fr) st g1) fun r s1 ⟨v, hr, h1⟩ => ?_
      subst hr
      refine seg_bind_wrap ?_
      rw [hov]
      refine thnF h1 fun _ s2 ⟨x, H3, I3, rx, y3, st3, fr3⟩ => ?_
      obtain ⟨t3, w3, ri3⟩ := g2 x H3 y3
      have e3 := er.to t3
      have ru3 := ru.to t3
      have I3' := I3.pinned (stat I3 fr3) (T1.obj _ _ st3)
      refine seg_bind_wrap ?_
      rw [hov]
      have a1 : wpAny (model X.prog X.w) X.A (assign tg X.env v) (fun _ s' => ∃ σ4, Inv X ((spin So acc c ++ []) ++ pinsAt fp s2.heap) σ4 H3 s' ∧ EnvR K P S' H3 m' ρ3 σ4 ∧ Same ws σ σ4) (fun _ _ => False) s2 := by
        have z := pg.run _ s2 σ H3 x v (fun σ4 H4 => H4 = H3 ∧ EnvR K P S' H3 m' ρ3 σ4 ∧ Same ws σ σ4) I3' rx (hu P ρ ρ3 S' H3 m' σ x its[i] _ w3 e3 ri3 q fun σ4 e4 s4 => ⟨rfl, e4, s4⟩)
        rw [hxe] at z
        exact wpAny_mono z (fun _ s' ⟨σ4, H4, I4, eH, e4, s4⟩ => ⟨σ4, by subst eH; exact I4, e4, s4⟩) fun _ _ z => z
      refine thnF a1 fun _ s3 ⟨σ4, I4, e4, sm4⟩ => ?_
      refine seg_bind_wrap ?_
      rw [hov]
      -- the tests
      cases qt : tf ρ3 S' with
      | bad => simp only [qt] at nb; exact absurd rfl nb
      | exc _ _ => simp only [qt] at nb; exact absurd rfl nb
      | ok b S5 =>
        simp only [qt] at cut nb ⊢
        have a2 := pt.run _ s3 σ4 H3 (fun b' H5 => b' = b ∧ ∃ m5, To P S' H3 m' S5 H5 m5 ∧ Wd K P S5 H5 m5 T) I4 (hT P ρ3 S' H3 m' σ4 _ w3 e4 (by rw [qt]; exact fun H5 m5 b' t5 w5 e => ⟨e, m5, t5, w5⟩))
        rw [hxe] at a2
        refine thnF a2 fun b' s4 ⟨H5, I5, eb, m5, t5, w5⟩ => ?_
        subst eb
        have t25 := t.trans (t3.trans t5)
        -- the turn's end
        have back : ∀ {s' : Shared} {S6 : Store} {H6 : Hp} {m6 : Nat → Addr} {zs : List EV}, GJ X So (pinsAt fp s2.heap) (fun acc => CsR So K P S6 H6 m6 acc zs) σ4 H6 s' → To P S5 H5 m5 S6 H6 m6 → GJ X So [] (fun acc => CsR So K P S6 H6 m6 acc zs) σ H6 s' ∧ tn (i + 1) s'.heap ∧ (∀ b ∈ fp, H6 b = none) := fun {s' S6 H6 m6 zs} gj6 t6 => by
          obtain ⟨acc6, c6, q2, I6⟩ := gj6
          have pin' : ∀ b ∈ fp, ∀ o, s2.heap.get? b = some o → s'.heap.get? b = some o ∧ H6 b = none := fun b hb o e =>
            let z := I6.pin (b, o) (List.mem_append_right _ (List.mem_append_right _ (mem_pinsAt hb e)))
            ⟨z.1, z.2.1⟩
          refine ⟨⟨acc6, c6, q2, ?_⟩, T1.keep _ _ _ st3 fun b hb o e => (pin' b hb o e).1, fun b hb => ?_⟩
          · have I7 : Inv X (spin So acc6 c6) σ4 H6 s' := I6.pins_of fun p hp => I6.pin p (List.mem_append_right _ (List.mem_append_left _ hp))
            rw [List.append_nil]
            refine I7.weak sm4.1.symm fun j v e => ?_
            have hj : j ∉ ws := fun z => by
              rw [← hσ] at e
              exact (wipe_some e).2 (hws j z)
            rw [sm4.2 j hj]
            exact e
          · obtain ⟨o, e, _⟩ := T1.obj _ _ st3 b hb
            exact (pin' b hb o e).2
        have I5' : Inv X (spin So acc c ++ pinsAt fp s2.heap) σ4 H5 s4 := by rw [List.append_nil] at I5; exact I5
        cases b' with
        | false =>
          simp only [Bool.false_eq_true, if_false] at cut nb ⊢
          obtain ⟨b1, b2, b3⟩ := back ⟨acc, c, ru3.to t5, I5'⟩ To.refl
          exact seg_again rfl (ih (i + 1) s₀ s4 ys S5 H5 m5 (by omega) hl t25 w5 ((er.to t3).to t5) b1 b2 b3 cut nb)
        | true =>
          simp only [if_true] at cut nb ⊢
          cases qe : ef ρ3 S5 with
          | bad => simp only [qe] at nb; exact absurd rfl nb
          | exc _ _ => simp only [qe] at nb; exact absurd rfl nb
          | ok y S6 =>
            simp only [qe] at cut nb ⊢
            have hy : ∀ v, yieldOut X.env v = yieldValue v := fun v => by simp only [yieldOut, hco, Bool.false_eq_true, if_false]
            simp only [hy]
            rw [Sem.bind_eq_wrap', Sem.bind_eq_wrap', Sem.wrap_wrap, Sem.wrap_wrap]
            refine seg_wrap ?_
            rw [hov]
            have a3 := pe.run _ s4 σ4 H5 (fun yv H6 => ∃ m6, To P S5 H5 m5 S6 H6 m6 ∧ Wd K P S6 H6 m6 T ∧ Rp K P S6 H6 m6 yv y) I5' (hE P ρ3 S5 H5 m5 σ4 _ w5 (e4.to t5) (by rw [qe]; exact fun H6 m6 yv t6 w6 e => ⟨m6, t6, w6, e⟩))
            rw [hxe] at a3
            refine thnF a3 fun vy s5 ⟨yv, H6, I6, rvy, m6, t6, w6, ry⟩ => ?_
            have t26 := t25.trans t6
            have gj6 : GJ X So (pinsAt fp s2.heap) (fun acc => CsR So K P S6 H6 m6 acc ys) σ4 H6 s5 := ⟨acc, c, (ru3.to t5).to t6, I6⟩
            refine seg_at (seg_yield rfl rfl rfl ⟨ys, y, S6, genT g tf ef ρ (its.drop (i + 1)) S6, cut, rfl, ⟨H6, m6, pinsAt fp s2.heap, σ4, t26, w6, gj6, yv, rvy, ry⟩, fun s'' sl nb' => ?_⟩)
            obtain ⟨b1, b2, b3⟩ := back (GJ.woken (R' := fun acc => CsR So K P S6 H6 m6 acc (ys ++ [y])) hS (fun p hp => by rw [hex]; exact (of_pinsAt hp).1) gj6 (fun acc acc' q n => q.step rvy ry n) sl) t6
            exact seg_again rfl (ih (i + 1) s'' s'' (ys ++ [y]) S6 H6 m6 (by omega) hl t26 w6 (((er.to t3).to t5).to t6) b1 b2 b3 cut.snoc nb')
end
end Z
set_option maxRecDepth 100000
set_option maxHeartbeats 1000000
/-! Z10: generator expressions: made; drained into a list, a tuple. -/
namespace Z
open PySem PySem.Spec PyProof.Rows L2 GenW

section
variable {K : PySem.W.Frag} {T : List Addr} {P : Addr → Prop} {S : Store} {H : Hp} {m : Nat → Addr}
/-- a table of code grows -/
theorem tbl_ne {c : Addr} {ps qs : Array Value} {b : Addr} {o : HO} (hc : H c = some (.tbl ps)) (h : H b = some o) (nt : ∀ ps, o ≠ .tbl ps) : upd H c (.tbl qs) b = some o := by
  rw [upd_ne]
  · exact h
  · intro e
    subst e
    rw [hc] at h
    cases h
    exact nt _ rfl
theorem To.tbl {c : Addr} {ps qs : Array Value} (hc : H c = some (.tbl ps)) : To P S H m S (upd H c (.tbl qs)) m where
  keep := fun a o h _ nt => tbl_ne hc h nt
  ext := fun _ _ => rfl
  le := Nat.le_refl _
  live := fun _ h => .inl h
  some_ := fun a h => by
    by_cases e : a = c
    · rw [e, upd_same]; exact fun z => by cases z
    · rw [upd_ne e]; exact h
theorem Wd.tbl (w : Wd K P S H m T) {c : Addr} {ps qs : Array Value} (hc : H c = some (.tbl ps)) (ht : TriplesOk qs.toList) : Wd K P S (upd H c (.tbl qs)) m T where
  ok := fun n u h => by
    have t := To.tbl (P := P) (S := S) (m := m) (qs := qs) hc
    have q := w.ok n u h
    cases u with
    | gone => trivial
    | lst xs =>
      obtain ⟨vs, e, r⟩ := q
      exact ⟨vs, tbl_ne hc e (fun ps z => by cases z), t.rpL r⟩
    | dct xs =>
      obtain ⟨vs, e, r⟩ := q
      exact ⟨vs, tbl_ne hc e (fun ps z => by cases z), Paired.mapP r fun _ _ q => ⟨q.1, t.rp q.2⟩⟩
    | dtp _ xs =>
      obtain ⟨vs, e, r⟩ := q
      exact ⟨vs, tbl_ne hc e (fun ps z => by cases z), Paired.mapP r fun _ _ q => ⟨q.1, t.dq q.2.1, q.2.2.imp fun _ z => ⟨z.1, t.rp z.2⟩⟩⟩
  inj := w.inj
  tab := fun q hq => by
    obtain ⟨ps', e, r⟩ := w.tab q hq
    by_cases z : q = c
    · subst z
      exact ⟨qs, upd_same, ht⟩
    · exact ⟨ps', by rw [upd_ne z]; exact e, r⟩
  prv := fun a ha => ⟨(To.tbl (P := P) (S := S) (m := m) (qs := qs) hc).some_ a (w.prv a ha).1, (w.prv a ha).2⟩
theorem WalkI.to {S2 : Store} {H2 : Hp} {m2 : Nat → Addr} {J : It} {its : List Itm} (h : WalkI K T P S H m J its) (t : To P S H m S2 H2 m2) : WalkI K T P S2 H2 m2 J its :=
  fun P2 S3 H3 m3 i hp t2 w => h P2 S3 H3 m3 i (fun a z => (hp a z).imp id fun e => Decidable.byContradiction fun q => t.some_ a q e) (t.trans t2) w
end

/-! ### made -/
/-- the context of the body of a generator that was made in X -/
structure GexOf (X X' : Cx) (sc : Shared) (H1 : Hp) (fp : List Addr) (a : Addr) (gg : Nat) : Prop where
  fs : X'.fs = frs X.stack
  ex : X'.ex = fp
  h0 : X'.H_0 = H1
  s0 : X'.s_0 = sc
  prog : X'.prog = X.prog
  w : X'.w = X.w
  gen : ∀ h : Heap, (∀ p ∈ X'.pn, h.get? p.1 = some p.2) → h.IsGen a gg
def GMd (X : Cx) (K : PySem.W.Frag) (T : List Addr) (P : Addr → Prop) (k : Nat) (pins : List (Addr × Obj)) (σ : L2.St) (S1 : Store) (H1 : Hp) (m1 : Nat → Addr) (tr0 : Tr) (u : Value) (s' : Shared) : Prop :=
  ∃ (sc : Shared) (a : Addr) (gg : Nat) (c : Code) (fp : List Addr), u = .ref a ∧ Inv X pins σ H1 sc ∧ ExOk X pins fp ∧ sc.heap.objs.size ≤ a ∧ a < s'.heap.objs.size ∧ s'.heap.IsGen a gg ∧ s'.gens[gg]? = some (.fresh c) ∧ s'.os = sc.os ∧ AllBare s'.gens ∧ s'.heap.NoLimit ∧
    (∀ b o, sc.heap.get? b = some o → s'.heap.get? b = some o) ∧ (∀ b ∈ fp, b < s'.heap.objs.size) ∧
    ∀ (A : Around) (So : Option Csm) (s2 : Shared), Room (k + 1) A → A.frames = some X.stack → (∀ S, So = some S → s'.heap.objs.size ≤ S.a ∧ ∃ acc c, s2.heap.get? S.a = some (lstObj acc c) ∧ (S.sum = false → acc = #[]) ∧ (S.sum = true → ∃ t, acc = #[.int 0 t])) → (∀ b o, s'.heap.get? b = some o → s2.heap.get? b = some o) → s2.os = s'.os → AllBare s2.gens → tr0 ≠ .bad →
      ∃ X', GexOf X X' sc H1 fp a gg ∧ Seg (model X.prog X.w) A (GRz X' K T P S1 H1 m1 So tr0) (GYz X' K T P S1 H1 m1 So tr0) (tr0.len + 1) s2 c ((model X.prog X.w).den c) [] s2

structure GIx (k : Nat) where
  s : Shared
  H : Hp
  C : Addr
  code : Value
  A : Around
  fp : List Addr
  pn : List (Addr × Obj)
  room : Room k A
section
variable {ι : Type} {X : ι → Cx} {K : PySem.W.Frag} {T : List Addr} {W : WX} {N : List Str}
def gexX (X : ι → Cx) (scope : Scope) (k : Nat) : ι × GIx k → Cx := fun j => gex (X j.1) j.2.s j.2.H scope j.2.C j.2.code j.2.A j.2.fp j.2.pn
theorem Fam.gex (F : Fam X K N) (scope : Scope) (k : Nat) : Fam (gexX X scope k) K N := ⟨fun j => F.K j.1, fun j => F.calm j.1, fun j => by have := j.2.room.un; show j.2.A.units + 65 < cLine; omega, F.nd, fun j => F.N j.1⟩
theorem over_ge {A : Around} {elt : Expr} {gs : List Comprehension} {scope : Scope} {pos : Pos} {it acc : Value} {env : Env} : A.over (.compLoop (.GeneratorExp elt gs scope pos) 0 it acc env) [] = A.deeper env := by
  first
    | rfl
    | (obtain ⟨hd, d, fr, gs, u⟩ := A; simp [Around.over, Around.deeper, marksOver, frameCount, unitsOf, envsOf, guardsOf, pushEnvs, pushGuards, Code.envs, Code.env?, Code.isFrame, Code.guards, Code.isGuard, Code.weight, Code.frames, Code.isCreation, Code.isCaller, Code.cUnits])
theorem over_gs {A : Around} {elt : Expr} {gs : List Comprehension} {scope : Scope} {pos : Pos} {it acc : Value} {env : Env} : A.over (.compStart (.GeneratorExp elt gs scope pos) 0 it acc env) [] = A.deeper env := by
  first
    | rfl
    | (obtain ⟨hd, d, fr, gs, u⟩ := A; simp [Around.over, Around.deeper, marksOver, frameCount, unitsOf, envsOf, guardsOf, pushEnvs, pushGuards, Code.envs, Code.env?, Code.isFrame, Code.guards, Code.isGuard, Code.weight, Code.frames, Code.isCreation, Code.isCaller, Code.cUnits])
/-- the def's code and its table: known to the head -/
structure CodeT (X : Cx) (T : List Addr) (c p : Addr) : Prop where
  tb : GxR.TabB X.base X.mg c p
  code : X.env.code = .ref c
  mem : p ∈ T
/-- what is done with a generator expression -/
theorem ge_eval {k : Nat} (F : Fam X K N) {c0 p0 : Addr} (i : ι) (hct : CodeT (X i) T c0 p0) (hr : Room (k + 2) (X i).A) {tg elt iter : Expr} {ifs : List Expr} {scope : Scope} {gpos : Pos} {f : IF} {tf : BF} {ef : EF} {g : GF} {ws : List Nat} {own : List (Str × Nat)} {wi : TI} {u : TG} {tt : TT} {te : TE}
    (ok : GOk N (X i).env.scope scope own) (hws : ∀ j ∈ ws, j ∈ own.map (·.2)) (hgf : ∀ x, genFold iter (X i).env x = pure x)
    (pi : PI (X i) tg iter wi) (hI : ∀ P ρ S H m σ R, Wd K P S H m T → EnvR K P S H m ρ σ → Post K T P (RelW K T P) S H m σ W (f ρ S) R → wi σ H R)
    (pu : ∀ j, PG (gexX X scope k j) tg u) (hu : ∀ P ρ ρ' S H m σ v it (Q : L2.St → Hp → Prop), Wd K P S H m T → EnvR K P S H m ρ σ → RpI K P S H m v it → g it ρ = some ρ' → (∀ σ', EnvR K P S H m ρ' σ' → Same ws σ σ' → Q σ' H) → u v σ H Q)
    (pt : ∀ j, PTs (gexX X scope k j) ifs tt) (hT : ∀ P ρ S H m σ Q, Wd K P S H m T → EnvR K P S H m ρ σ → Post K T P RelB S H m σ Wn (tf ρ S) Q → tt σ H Q)
    (pe : ∀ j, PE (gexX X scope k j) elt te) (hE : ∀ P ρ S H m σ Q, Wd K P S H m T → EnvR K P S H m ρ σ → Post K T P (RelE K P) S H m σ Wn (ef ρ S) Q → te σ H Q)
    {γ δ : Type} {RelC : Store → Hp → (Nat → Addr) → δ → γ → Prop} {kk : List Itm → Store → Res γ} {QQ : δ → Hp → Prop} {Q' : Value → Shared → Prop} {pins : List (Addr × Obj)} {s : Shared} {P : Addr → Prop} {ρ : Rho} {S : Store} {H : Hp} {m : Nat → Addr} {σ : L2.St}
    (I : Inv (X i) pins σ H s) (w : Wd K P S H m T) (er : EnvR K P S H m ρ σ) (h : Post K T P RelC S H m σ W ((f ρ S).bind kk) QQ)
    (hQ : ∀ S1 H1 m1 its u s', To P S H m S1 H1 m1 → Wd K P S1 H1 m1 T → Post K T P RelC S1 H1 m1 σ W (kk its S1) QQ → GMd (X i) K T P k pins σ S1 H1 m1 (genT g tf ef (wipeR ρ (own.map (·.2))) its S1) u s' → Q' u s') :
    wpAny (model (X i).prog (X i).w) (X i).A (eval (.GeneratorExp elt [⟨tg, iter, ifs, 0⟩] scope gpos) (X i).env) Q' (X i).xe s := by
  have hNN : (X i).N = N := F.N i
  have ok' : GOk (X i).N (X i).env.scope scope own := by rw [hNN]; exact ok
  have hnd : (X i).N.Nodup := by rw [hNN]; exact F.nd
  have hfree : ∀ y ∈ scope.names, y.2 = .free → ∃ c, (X i).env.cells.lookup y.1 = some c := fun y hy e => by
    rcases ok'.blk.free y hy e with k | k
    · exact I.ok.has _ (.inl k)
    · exact I.ok.has _ (.inr k)
  refine wpAny_GeneratorExp_make ok.co (closure_ok hfree) ok.cell ok.dot ok.blk.kind hr.depth ?_ hgf
  refine thn (pi.run pins s σ H (fun J H1 => ∃ S1 m1 its, To P S H m S1 H1 m1 ∧ Wd K P S1 H1 m1 T ∧ WalkI K T P S1 H1 m1 J its ∧ Post K T P RelC S1 H1 m1 σ W (kk its S1) QQ) I
    (hI P ρ S H m σ _ w er (Post.step h fun S1 H1 m1 J its t1 w1 r1 h1 => ⟨S1, m1, its, t1, w1, r1, h1⟩))) fun xv s1 hx => thn hx fun itv s2 h2 => ?_
  obtain ⟨it, fp, tn, J, H1, e, I2, T1, st2, f2, S1, m1, its, t1, w1, r1, h1⟩ := h2
  subst e
  obtain ⟨ps, hP, htr⟩ := w1.tab p0 hct.mem
  have hPs : s2.heap.get? p0 = some { cls := .none, data := .fields ps } := I2.hok p0 _ hP
  have hPlt : p0 < s2.heap.objs.size := Heap.lt_size hPs
  have cd : PySem.W.CodeHd s2.heap c0 p0 := hct.tb.code.keeps fun b u e => I2.bk b u e
  have lim2 : s2.heap.NoLimit := I2.nolimit
  have sz : ∀ b ∈ fp, b < s2.heap.objs.size := fun b hb => by
    obtain ⟨o, e, _⟩ := T1.obj _ _ st2 b hb
    exact Heap.lt_size e
  have cont : ∀ (code : Value) (h3 : Heap) (tk : Nat) (ps' : Array Value), Heap.ExtBut p0 s2.heap h3 → s2.heap.objs.size ≤ h3.objs.size → h3.get? p0 = some { cls := .none, data := .fields ps' } → (∃ more, ps' = ps ++ more) → TriplesOk ps'.toList →
      wpAny (model (X i).prog (X i).w) (X i).A (builtinsFor (X i).env.globals (X i).env.builtins) (fun bi s₄ =>
        ∀ h', h'.Ns s₄.heap.objs.size (fun y => if y = ".0" then some (.ref it) else none) → Heap.SameBut s₄.heap.objs.size (s₄.heap.push { cls := .type "frame", data := .dict #[] }) h' →
          Q' (.ref h'.objs.size) { s₄ with
            gens := s₄.gens.push (.fresh (.compStart (.GeneratorExp elt [⟨tg, iter, ifs, 0⟩] scope gpos) 0 (.ref it) .none (genEnv scope (cloFrom (X i).env.cells scope.names []) s₄.heap.objs.size code bi (X i).env))),
            toks := s₄.toks + 1 + 1 + 1,
            heap := h'.push { cls := .type "generator", data := .fields #[.int s₄.gens.size 0, .str "<genexpr>" (s₄.toks + 1), .str ((X i).env.qual ++ "<genexpr>") (s₄.toks + 1 + 1)] } }) (X i).xe { s2 with heap := h3, toks := tk } := by
    intro code h3 tk ps' hx hsz hP3 hmore ht3
    obtain ⟨bm, ob, e1, e2, e3, e4, e5, e6, e7, e8⟩ := hct.tb.bm
    have keep3 : ∀ b u, b ≠ p0 → s2.heap.get? b = some u → h3.get? b = some u := fun b u hb e => hx b u hb e
    refine wpAny_builtinsFor (m := (X i).mg) (by rw [I2.ok.glob]; exact (I2.mod.glob.keeps I2.bk).extBut hx hct.tb.gP) e1 e2 (keep3 _ _ e4 (I2.bk _ _ e5)) e6 e7 e8 ?_
    intro h' hn' hs'
    obtain ⟨more, em⟩ := hmore
    -- the state in which it is made
    have I3 : Inv (X i) pins σ (upd H1 p0 (.tbl (ps ++ more))) { s2 with heap := h3, toks := tk } :=
      GxR.inv_tab (g' := s2.gens) (d' := s2.drawn) (t' := tk) I2 hP keep3 (by rw [← em]; exact hP3) I2.bare
    have t3 : To P S1 H1 m1 S1 (upd H1 p0 (.tbl (ps ++ more))) m1 := To.tbl hP
    have w3 : Wd K P S1 (upd H1 p0 (.tbl (ps ++ more))) m1 T := w1.tbl hP (by rw [← em]; exact ht3)
    have f3 : ∀ b ∈ fp, FpOk (X i) pins (upd H1 p0 (.tbl (ps ++ more))) b ∧ b < h3.objs.size := fun b hb => by
      refine ⟨⟨?_, (f2 b hb).2⟩, Nat.lt_of_lt_of_le (sz b hb) hsz⟩
      rw [upd_ne (fun z => by rw [← z, (f2 b hb).1] at hP; cases hP)]
      exact (f2 b hb).1
    have st3 : tn 0 h3 := T1.keep _ _ _ st2 fun b hb o e => keep3 b o (fun z => by rw [← z, (f2 b hb).1] at hP; cases hP) e
    have hsz' : h'.objs.size = h3.objs.size + 1 := by
      have q := hs'.1
      rw [Heap.size_push] at q
      exact q
    have lt3 : h3.objs.size < h'.objs.size := by rw [hsz']; exact Nat.lt_succ_self _
    have keep' : ∀ b o, h3.get? b = some o → h'.get? b = some o := fun b o e => hs'.extBut b o (Nat.ne_of_lt (Heap.lt_size e)) (Heap.get?_push_of_some _ e)
    have keep5 : ∀ b o, h3.get? b = some o → (h'.push { cls := .type "generator", data := .fields #[.int s2.gens.size 0, .str "<genexpr>" (tk + 1), .str ((X i).env.qual ++ "<genexpr>") (tk + 1 + 1)] }).get? b = some o := fun b o e => Heap.get?_push_of_some _ (keep' b o e)
    have hgo : (h'.push { cls := .type "generator", data := .fields #[.int s2.gens.size 0, .str "<genexpr>" (tk + 1), .str ((X i).env.qual ++ "<genexpr>") (tk + 1 + 1)] }).get? h'.objs.size = some { cls := .type "generator", data := .fields #[.int s2.gens.size 0, .str "<genexpr>" (tk + 1), .str ((X i).env.qual ++ "<genexpr>") (tk + 1 + 1)] } := Heap.get?_push_size _ rfl
    refine hQ S1 (upd H1 p0 (.tbl (ps ++ more))) m1 its _ _ (t1.trans t3) w3 (Post.after t3 h1) ⟨{ s2 with heap := h3, toks := tk }, h'.objs.size, s2.gens.size, _, fp, rfl, I3, fun b hb => ?_, ?_, ?_, ⟨_, _, _, hgo, rfl, rfl, rfl⟩, Array.getElem?_push_size .., rfl, I2.bare.push rfl, I3.nolimit.keeps keep5, keep5, fun b hb => ?_, ?_⟩
    · obtain ⟨_, q1, q2, q3, q4, q5⟩ := (f3 b hb).1
      exact ⟨q3, q1, q4, q5⟩
    · exact Nat.le_of_lt lt3
    · show h'.objs.size < (h'.push _).objs.size
      rw [Heap.size_push]; exact Nat.lt_succ_self _
    · show b < (h'.push _).objs.size
      rw [Heap.size_push]
      exact Nat.lt_succ_of_lt (Nat.lt_trans (f3 b hb).2 lt3)
    intro A So s6 hrA hfrA hSo hk6 hos6 hba6 nb
    have hAd : Room k (A.deeper (genv (X i) scope h3.objs.size code)) := hrA.deeper _
    let ix : GIx k := ⟨{ s2 with heap := h3, toks := tk }, upd H1 p0 (.tbl (ps ++ more)), h3.objs.size, code, A.deeper (genv (X i) scope h3.objs.size code), fp, [(h'.objs.size, { cls := .type "generator", data := .fields #[.int s2.gens.size 0, .str "<genexpr>" (tk + 1), .str ((X i).env.qual ++ "<genexpr>") (tk + 1 + 1)] })], hAd⟩
    have hX' : gexX X scope k (i, ix) = gex (X i) { s2 with heap := h3, toks := tk } (upd H1 p0 (.tbl (ps ++ more))) scope h3.objs.size code (A.deeper (genv (X i) scope h3.objs.size code)) fp ix.pn := rfl
    have kp6 : ∀ b o, h3.get? b = some o → s6.heap.get? b = some o := fun b o e => hk6 b o (keep5 b o e)
    have hns6 : ∃ mm, s6.heap.Ns h3.objs.size mm := ⟨_, (hn'.push _).keeps hk6⟩
    have Ig : Inv (gexX X scope k (i, ix)) [] (L2.wipe σ (own.map (·.2))) (upd H1 p0 (.tbl (ps ++ more))) s6 := by
      refine gex_start (s := { s2 with heap := h3, toks := tk }) I3 ok' hnd f3 hAd.hd (Around.frames_deeper hfrA) kp6 hns6 hos6 hba6 fun p hp => ?_
      rw [List.mem_singleton.mp hp]
      exact ⟨hk6 _ _ hgo, lt3, fun v z => by cases z⟩
    have hSa : ∀ S0, So = some S0 → h'.objs.size < S0.a := fun S0 e => by
      have := (hSo S0 e).1
      have q : (h'.push ({ cls := .type "generator", data := .fields #[.int s2.gens.size 0, .str "<genexpr>" (tk + 1), .str ((X i).env.qual ++ "<genexpr>") (tk + 1 + 1)] } : Obj)).objs.size ≤ S0.a := this
      rw [Heap.size_push] at q
      exact q
    have cellLt : ∀ y c, (genv (X i) scope h3.objs.size code).cells.lookup y = some c → c < h3.objs.size := fun y c e => by
      rcases cloFrom_mem (PySem.mem_of_lookup (show (cloFrom (X i).env.cells scope.names []).lookup y = some c from e)) with hm | ⟨hq, rfl⟩
      · cases hm
      · obtain ⟨c, hc⟩ := hfree _ hq rfl
        rw [hc]
        obtain ⟨v, z⟩ := I3.cell _ _ hc
        exact z.lt
    have hSok : SoOk (gexX X scope k (i, ix)) So := by
      refine ⟨fun S0 e => ?_, fun S0 e z => ?_⟩
      · have h9 := hSa S0 e
        have h8 : h3.objs.size < S0.a := Nat.lt_trans lt3 h9
        refine ⟨Nat.le_of_lt h8, Nat.ne_of_gt h8, fun y c ec z => ?_, fun p hp => ?_⟩
        · have := cellLt y c ec
          rw [z] at this
          exact absurd (Nat.lt_trans this h8) (Nat.lt_irrefl _)
        · rw [List.mem_singleton.mp hp]
          exact Nat.ne_of_lt h9
      · have h9 := hSa S0 e
        have := (f3 S0.a z).2
        exact absurd (Nat.lt_trans this (Nat.lt_trans lt3 h9)) (Nat.lt_irrefl _)
    have gj0 : GJ (gexX X scope k (i, ix)) So [] (fun acc => CsR So K P S1 (upd H1 p0 (.tbl (ps ++ more))) m1 acc []) (L2.wipe σ (own.map (·.2))) (upd H1 p0 (.tbl (ps ++ more))) s6 := by
      cases So with
      | none => exact ⟨#[], 0, ⟨[], .nil, .nil⟩, by simpa [spin] using Ig⟩
      | some S0 =>
        obtain ⟨_, acc, c, hc, ha1, ha2⟩ := hSo S0 rfl
        have hcs : CsR (some S0) K P S1 (upd H1 p0 (.tbl (ps ++ more))) m1 acc [] := by
          obtain ⟨a0, b0⟩ := S0
          cases b0
          · rw [ha1 rfl]; exact ⟨[], .nil, .nil⟩
          · intro ns e
            cases ns with
            | nil => exact ha2 rfl
            | cons _ _ => cases e
        refine ⟨acc, c, hcs, Ig.pins_of fun p hp => ?_⟩
        rw [List.append_nil] at hp
        have e := List.mem_singleton.mp hp
        subst e
        have h8 : h3.objs.size < S0.a := Nat.lt_trans lt3 (hSa S0 rfl)
        refine ⟨hc, ?_, Nat.ne_of_gt h8, fun z => ?_, fun v z => by cases z⟩
        · exact I3.hok.fresh (Nat.le_of_lt h8)
        · have z : S0.a ∈ frs (X i).stack := z
          rcases List.mem_cons.mp (I3.stkSub S0.a z) with z | z
          · have : (X i).env.locals < h3.objs.size := I3.lt
            rw [← z] at this
            exact absurd (Nat.lt_trans this h8) (Nat.lt_irrefl _)
          · exact I3.nofs (a := S0.a) (Nat.le_of_lt h8) z
    have er3 : EnvR K P S1 (upd H1 p0 (.tbl (ps ++ more))) m1 (wipeR ρ (own.map (·.2))) (L2.wipe σ (own.map (·.2))) := ((er.to t1).to t3).wipe _
    have hww : L2.wipe (L2.wipe σ (own.map (·.2))) (own.map (·.2)) = L2.wipe σ (own.map (·.2)) := by
      apply List.ext_getElem?
      intro j
      rw [wipe_get, wipe_get, L2.wipe_length]
      by_cases z : j ∈ own.map (·.2) ∧ j < σ.length
      · rw [if_pos z, if_pos z]
      · rw [if_neg z, if_neg z]
    have tn6 : tn 0 s6.heap := T1.keep _ _ _ st3 fun b hb o e => kp6 b o e
    have loop : Seg (model (X i).prog (X i).w) A (GRz (gexX X scope k (i, ix)) K T P S1 (upd H1 p0 (.tbl (ps ++ more))) m1 So (genT g tf ef (wipeR ρ (own.map (·.2))) its S1)) (GYz (gexX X scope k (i, ix)) K T P S1 (upd H1 p0 (.tbl (ps ++ more))) m1 So (genT g tf ef (wipeR ρ (own.map (·.2))) its S1)) ((genT g tf ef (wipeR ρ (own.map (·.2))) its S1).len + 1) s6
        (.compLoop (.GeneratorExp elt [⟨tg, iter, ifs, 0⟩] scope gpos) 0 (.ref it) .none (genv (X i) scope h3.objs.size code)) ((model (X i).prog (X i).w).den (.compLoop (.GeneratorExp elt [⟨tg, iter, ifs, 0⟩] scope gpos) 0 (.ref it) .none (genv (X i) scope h3.objs.size code))) [] s6 := by
      have z := seg_loopZ (X := gexX X scope k (i, ix)) (A := A) (So := So) (elt := elt) (iter := iter) (ifs := ifs) (scope := scope) (pos := gpos) (it := it) (J := J) (fp := fp) (tn := tn) (its := its) (g := g) (tf := tf) (ef := ef) (u := u) (tt := tt) (te := te) (K := K) (T := T) (P := P) (S1 := S1) (H1 := upd H1 p0 (.tbl (ps ++ more))) (m1 := m1) (ws := ws) (vs := own.map (·.2))
        (tr0 := genT g tf ef (wipeR ρ (own.map (·.2))) its S1) (ρ := wipeR ρ (own.map (·.2))) (σ := L2.wipe σ (own.map (·.2))) (F.calm i) rfl over_ge ok.co rfl (fun p hp => by
          rw [List.mem_singleton.mp hp]
          exact fun z => absurd (Nat.lt_trans (f3 _ z).2 lt3) (Nat.lt_irrefl _)) hSok hws
        (by have := T1; rw [show K = (X i).K from (F.K i).symm] at *; exact this) (pu (i, ix)) (pt (i, ix)) (pe (i, ix)) (r1.to t3) hww hu hT hE its.length 0 s6 s6 [] S1 (upd H1 p0 (.tbl (ps ++ more))) m1 rfl (Nat.zero_le _) To.refl w3 er3 gj0 tn6 (fun b hb => (f3 b hb).1.1) (.refl _) nb
      exact z
    refine ⟨gexX X scope k (i, ix), ⟨rfl, rfl, rfl, rfl, rfl, rfl, fun h hp => ⟨_, _, _, hp (h'.objs.size, { cls := .type "generator", data := .fields #[.int s2.gens.size 0, .str "<genexpr>" (tk + 1), .str ((X i).env.qual ++ "<genexpr>") (tk + 1 + 1)] }) List.mem_cons_self, rfl, rfl, rfl⟩⟩, ?_⟩
    show Seg _ A _ _ _ s6 _ ((compStart (.GeneratorExp elt [⟨tg, iter, ifs, 0⟩] scope gpos) 0 (.ref it) .none (genv (X i) scope h3.objs.size code)).onRaise (leaving (genv (X i) scope h3.objs.size code))) [] s6
    unfold compStart
    rw [Sem.onRaise_eq_wrap]
    show Seg _ A _ _ _ s6 _ ((ask >>= _).wrap _ _ _ _) [] s6
    refine seg_bind_wrap (wpAny_askSetting ?_)
    split
    · exact seg_again rfl loop
    · first
        | exact seg_bind_wrap (wpAny_rule (seg_bind_wrap (wpAny_standAt (seg_bind_wrap (T1.self _ 0 s6 _ _ tn6 (seg_again rfl loop))))))
        | (refine seg_bind_wrap (wpAny_rule ?_); show Seg _ A _ _ _ s6 _ ((standAt iter.pos >>= _).wrap _ _ _ _) [] s6; exact seg_bind_wrap (wpAny_standAt (seg_bind_wrap (T1.self _ 0 s6 _ _ tn6 (seg_again rfl loop)))))
  refine ⟨lim2, ?_⟩
  cases hf : codeAmong gpos ps.toList with
  | none =>
    refine wpAny_genexprCodeX hct.code (cd.code hPs htr) (cd.tab hPs) hf fun c' h' tk hx hge hlt hco' _ htab' _ => ?_
    obtain ⟨o1, vs, f1, tf, fl, tg, inF, tx, tt, op, _, _, _, _, _, _, _, _, _, htr', _⟩ := hco'
    exact cont _ h' tk _ hx (Nat.le_trans hge (Nat.le_of_lt hlt)) htab'.2 ⟨_, rfl⟩ htr'
  | some cv =>
    refine wpAny_genexprCode_hit hct.code (cd.code hPs htr) hf ?_
    exact cont cv s2.heap s2.toks ps (Heap.ExtBut.refl _ _) (Nat.le_refl _) hPs ⟨#[], by simp⟩ htr
end
end Z
set_option maxRecDepth 100000
set_option maxHeartbeats 1000000
/-! Z11: the consumers of generator expressions. -/
namespace Z
open PySem PySem.Spec PyProof.Rows L2 GenW

/-! ### one turn -/
/-- what is known of the caller's state while the generator sleeps, or at its end -/
structure Core (X : Cx) (K : PySem.W.Frag) (T : List Addr) (P : Addr → Prop) (S1 : Store) (H1 : Hp) (m1 : Nat → Addr) (sc : Shared) (fp : List Addr) (a : Addr) (gg : Nat) (S' : Store) (H' : Hp) (m' : Nat → Addr) (s : Shared) : Prop where
  to : To P S1 H1 m1 S' H' m'
  wd : Wd K P S' H' m' T
  os : s.os = sc.os
  bare : AllBare s.gens
  un : Un (frs X.stack) fp H1 H' sc.heap s.heap
  hok : HOk X.prog X.w H' s.heap
  lim : s.heap.NoLimit
  gen : s.heap.IsGen a gg
/-- the consumer's list -/
def LstAt (K : PySem.W.Frag) (P : Addr → Prop) (S' : Store) (H' : Hp) (m' : Nat → Addr) (So : Option Csm) (ys : List EV) (s : Shared) : Prop :=
  ∀ S, So = some S → H' S.a = none ∧ ∃ (acc : Array Value) (c : Nat), s.heap.get? S.a = some (lstObj acc c) ∧ CsR So K P S' H' m' acc ys
section
variable {X X' : Cx} {K : PySem.W.Frag} {T : List Addr} {P : Addr → Prop} {S1 : Store} {H1 : Hp} {m1 : Nat → Addr} {sc : Shared} {fp : List Addr} {a : Addr} {gg : Nat} {So : Option Csm} {tr0 : Tr}
theorem gout_core (G : GexOf X X' sc H1 fp a gg) {ys : List EV} {S' : Store} {s : Shared} {k : Hp → (Nat → Addr) → Prop} (h : GOut X' K T P S1 H1 m1 So ys S' s k) :
    ∃ H' m', Core X K T P S1 H1 m1 sc fp a gg S' H' m' s ∧ LstAt K P S' H' m' So ys s ∧ k H' m' := by
  obtain ⟨H', m', ip, σ', t, w, ⟨acc, c, ru, I⟩, hk⟩ := h
  refine ⟨H', m', ⟨t, w, ?_, I.bare, ?_, ?_, I.nolimit, G.gen _ fun p hp => (I.pin p (List.mem_append_left _ hp)).1⟩, fun S e => ?_, hk⟩
  · rw [← G.s0]; exact I.os
  · have z := I.base
    rw [show X'.fs = frs X.stack from G.fs, G.ex, G.h0, G.s0] at z
    exact z
  · have z := I.hok
    rw [G.prog, G.w] at z
    exact z
  · subst e
    obtain ⟨h1, h2, _⟩ := I.pin (S.a, lstObj acc c) (List.mem_append_right _ (List.mem_append_left _ List.mem_cons_self))
    exact ⟨h2, acc, c, h1, ru⟩
/-- it stands ahead of tr -/
def StandsZ (X' : Cx) (K : PySem.W.Frag) (T : List Addr) (P : Addr → Prop) (S1 : Store) (H1 : Hp) (m1 : Nat → Addr) (So : Option Csm) (tr0 : Tr) (M : Model) (A : Around) (gg : Nat) (tr : Tr) (s : Shared) : Prop :=
  ∃ gs, s.gens[gg]? = some gs ∧ gs.Goes M A (GRz X' K T P S1 H1 m1 So tr0) (GYz X' K T P S1 H1 m1 So tr0) (tr.len + 1) (.send .none) (s.setGen gg .running)
theorem next_Z (G : GexOf X X' sc H1 fp a gg) {A : Around} {s : Shared} {tr : Tr} {ys : List EV} {Q : Option Value → Shared → Prop} {E : Value → Shared → Prop} (hh : A.handled = none) (hroom : A.depth < recursionLimit) (hl : s.heap.NoLimit) (hg : s.heap.IsGen a gg)
    (cut : Cut tr0 ys tr) (st : StandsZ X' K T P S1 H1 m1 So tr0 (model X.prog X.w) A.in1 gg tr s)
    (hdone : ∀ S' s' H' m', tr = .done S' → Core X K T P S1 H1 m1 sc fp a gg S' H' m' s' → LstAt K P S' H' m' So ys s' → Q none s')
    (hyld : ∀ y S' r v s1 H' m' u, tr = .yld y S' r → Core X K T P S1 H1 m1 sc fp a gg S' H' m' s1 → LstAt K P S' H' m' So ys s1 → RelV u v → Rp K P S' H' m' u y →
      (∀ s2 : Shared, (∀ s', s'.heap = s2.heap → s'.os = s2.os → AllBare s'.gens → SlpO So v s1 s') → s2.gens = s1.gens → r ≠ .bad → StandsZ X' K T P S1 H1 m1 So tr0 (model X.prog X.w) A.in1 gg r s2) → Q (some v) s1) :
    wpAny (model X.prog X.w) A (pyNext (.ref a)) Q E s := by
  obtain ⟨gs, hgs, hgo⟩ := st
  have hgl : gg < s.gens.size := (Array.getElem?_eq_some_iff.mp hgs).1
  refine wpAny_gsz (n := gg + 1) hgl (wpAny_pyNext_genexpQ (P := fun n s₀ s => ∃ ys S', Cut tr0 ys (.done S') ∧ n = 1 ∧ GOut X' K T P S1 H1 m1 So ys S' s (fun _ _ => True)) hh hl hroom hg hgs hgo (fun v s₁ gs' hb hv => ?_) fun s₁ hp h' hk => ?_)
  · intro hsz
    obtain ⟨zs, y, S', r, cz, hlen, ho, hkap⟩ := hv
    obtain ⟨H', m', co, la, u, rv, ru⟩ := gout_core G ho
    have hlen' : tr.len = (Tr.yld y S' r).len := by
      show tr.len = r.len + 1
      rw [hlen]; rfl
    obtain ⟨e1, e2⟩ := cut.uniq cz hlen'
    subst e1
    have hsz1 : gg < s₁.gens.size := by
      have q : (s₁.setGen gg gs').gens.size = s₁.gens.size := setGen_size _ _ _
      have hsz' : gg + 1 ≤ (s₁.setGen gg gs').gens.size := hsz
      omega
    refine hyld y S' r v (s₁.setGen gg gs') H' m' u e2 ⟨co.to, co.wd, co.os, allBare_setGen co.bare hb, co.un, co.hok, co.lim, co.gen⟩ la rv ru fun s2 hs2 hg2 nb => ⟨gs', by rw [hg2]; exact setGen_at hsz1, ?_⟩
    have z := hs2 (s2.setGen gg .running) rfl rfl (by
      refine allBare_setGen ?_ rfl
      rw [hg2]
      exact allBare_setGen co.bare hb)
    have z2 : SlpO So v s₁ (s2.setGen gg .running) := ⟨z.os, z.bare, z.keep, z.own⟩
    have := hkap _ z2 nb
    rw [hlen]
    exact this
  · intro _
    obtain ⟨zs, S', cz, hlen, ho⟩ := hp
    obtain ⟨H', m', co, la, _⟩ := gout_core G ho
    have hlen' : tr.len = (Tr.done S').len := by
      show tr.len = 0
      omega
    obtain ⟨e1, e2⟩ := cut.uniq cz hlen'
    subst e1
    refine hdone S' _ H' m' e2 ⟨co.to, co.wd, co.os, allBare_setGen co.bare rfl, co.un.trans (Un.kept hk), co.hok.kept hk, co.lim.keeps hk, co.gen.keeps hk⟩ fun S e => ?_
    obtain ⟨q1, acc, c, q2, q3⟩ := la S e
    exact ⟨q1, acc, c, hk _ _ q2, q3⟩
/-- all that it hands out -/
def collT : Tr → Option (List EV × Store)
  | .bad => none
  | .done S => some ([], S)
  | .yld x _ r => (collT r).map fun p => (x :: p.1, p.2)
theorem collT_len : ∀ {tr : Tr} {p : List EV × Store}, collT tr = some p → p.1.length = tr.len
  | .done S, p, h => by cases h; rfl
  | .yld x S r, p, h => by
    have h' : (collT r).map (fun p => (x :: p.1, p.2)) = some p := h
    cases q : collT r with
    | none => rw [q] at h'; cases h'
    | some p1 =>
      rw [q] at h'
      cases h'
      simp [Tr.len, collT_len q]
theorem drainZ (G : GexOf X X' sc H1 fp a gg) {A : Around} {R : Result → Shared → Prop} {S : Addr} {res : Value} {all : List EV} {Sf : Store} (hS : So = some ⟨S, false⟩) (hh : A.handled = none) (hd : A.depth < recursionLimit) (hSa : S ≠ a) (hSc : S ≠ cStatics) (hz : all.length ≤ sizeLine)
    (hend : ∀ s' H' m' acc c us, Core X K T P S1 H1 m1 sc fp a gg Sf H' m' s' → H' S = none → s'.heap.get? S = some (lstObj acc c) → Vals us acc.toList → RpL K P Sf H' m' us all → R (.ok (.ret res)) s') :
    ∀ (tr : Tr) (ys rest : List EV) (s : Shared), Cut tr0 ys tr → collT tr = some (rest, Sf) → ys ++ rest = all → s.heap.NoLimit → s.heap.IsGen a gg → StandsZ X' K T P S1 H1 m1 So tr0 (model X.prog X.w) A.in1.in1 gg tr s →
      codeAny (model X.prog X.w) A (.builtin "list.extend.loop" ⟨[.ref S, .ref a, res], []⟩) R s := by
  intro tr
  induction tr with
  | bad => intro ys rest s cut ec; cases ec
  | done S' =>
    intro ys rest s cut ec ea hl hg st
    cases ec
    refine codeAny_builtin F.entry_extend_loop ?_
    rw [Around.under_plainId F.plain_extend_loop _]
    show wpAny _ A.in1 (pyNext (.ref a) >>= _) _ _ s
    refine wpAny_bind (next_Z (A := A.in1) G hh hd hl hg cut st (fun S' s' H' m' e co la => ?_) fun y S' r v s1 H' m' u e _ _ _ _ _ => by cases e)
    cases e
    obtain ⟨q1, acc, c, q2, q5⟩ := la ⟨S, false⟩ hS; obtain ⟨us, q3, q4⟩ := CsR.col hS q5
    rw [List.append_nil] at ea
    subst ea
    exact wpAny_pure (hend s' H' m' acc c us co q1 q2 q3 q4)
  | yld y S' r ih =>
    intro ys rest s cut ec ea hl hg st
    have ec' : (collT r).map (fun p => (y :: p.1, p.2)) = some (rest, Sf) := ec
    cases q : collT r with
    | none => rw [q] at ec'; cases ec'
    | some p =>
      rw [q] at ec'
      cases ec'
      refine codeAny_builtin F.entry_extend_loop ?_
      rw [Around.under_plainId F.plain_extend_loop _]
      show wpAny _ A.in1 (pyNext (.ref a) >>= _) _ _ s
      refine wpAny_bind (next_Z (A := A.in1) G hh hd hl hg cut st (fun S' s' H' m' e co la => by cases e) fun y' S'' r' v s1 H' m' u e co la rv ru hk => ?_)
      cases e
      obtain ⟨q1, acc, c, q2, q5⟩ := la ⟨S, false⟩ hS; obtain ⟨us, q3, q4⟩ := CsR.col hS q5
      have hacc : acc.size = ys.length := by
        have e1 := q3.length
        have e2 := q4.length
        have e3 : acc.toList.length = acc.size := by simp
        omega
      have hlt : acc.size < sizeLine := by
        have := congrArg List.length ea
        simp only [List.length_append, List.length_cons] at this
        omega
      show wpAny _ A.in1 (updateSeq S (·.push v) >>= _) _ _ _
      refine wpAny_bind ?_
      refine wpAny_updateSeq q2 rfl (wpAny_pure ⟨plainId_quiet F.plain_extend_loop _, ?_⟩) (Nat.le_of_lt hlt) (by show (acc.push v).size ≤ sizeLine + 1; rw [Array.size_push]; omega)
      have keep3 : ∀ b o, b ≠ S → s1.heap.get? b = some o → (s1.heap.update S (Obj.mapSeq (·.push v))).get? b = some o := fun b o hbS e => (Heap.get?_update_other _ _ (Ne.symm hbS)).trans e
      refine ih (ys ++ [y]) p.1 _ cut.snoc (by rw [q]) (by rw [List.append_assoc]; exact ea) ?_ ?_ (hk { s1 with heap := s1.heap.update S (Obj.mapSeq (·.push v)) } (fun s' e1 e2 e3 => ⟨e2, e3, fun b o nb e => ?_, fun S0 e0 acc' c' e => ?_⟩) rfl fun e => by rw [e] at q; cases q)
      · obtain ⟨mc, hns, hnn⟩ := co.lim
        exact ⟨mc, hns.at' fun o e => keep3 _ o (Ne.symm hSc) e, hnn⟩
      · obtain ⟨o, nm, qn, ho, r⟩ := co.gen
        exact ⟨o, nm, qn, keep3 a o (Ne.symm hSa) ho, r⟩
      · rw [e1]
        exact keep3 b o (fun z => nb ⟨S, false⟩ hS z.symm) e
      · rw [hS] at e0
        cases e0
        rw [q2] at e
        cases e
        rw [e1, hS]
        exact ⟨_, _, rfl, Heap.get?_update_self _ q2 rfl⟩
end

/-! ### list(..), tuple(..) -/
section
variable {X : Cx} {K : PySem.W.Frag} {T : List Addr} {P : Addr → Prop} {k : Nat} {pins : List (Addr × Obj)} {σ : L2.St} {S1 : Store} {H1 : Hp} {m1 : Nat → Addr} {tr0 : Tr} {u : Value} {s : Shared}
/-- proto.collect -/
theorem collect_Z {A : Around} {Q : List Value → Shared → Prop} {E : Value → Shared → Prop} {all : List EV} {Sf : Store} (hr : Room (k + 3) A) (hfr : A.frames = some X.stack) (h : GMd X K T P k pins σ S1 H1 m1 tr0 u s) (hc : collT tr0 = some (all, Sf)) (hz : all.length ≤ sizeLine)
    (hQ : ∀ s' H' m' us vs, To P S1 H1 m1 Sf H' m' → Wd K P Sf H' m' T → Inv X pins σ H' s' → Vals us vs → RpL K P Sf H' m' us all → Q vs s') : wpAny (model X.prog X.w) A (collect u) Q E s := by
  obtain ⟨sc, a, gg, c, fp, rfl, I, hex, ha1, ha2, hg, hgs, hos, hb, hl, hkp, hfp, wake⟩ := h
  have hSa : s.heap.objs.size ≠ a := Nat.ne_of_gt ha2
  have hcl : cStatics < s.heap.objs.size := let ⟨_, hn, _⟩ := hl; hn.lt
  have hSc : s.heap.objs.size ≠ cStatics := Nat.ne_of_gt hcl
  unfold collect
  refine wpAny_bind (wpAny_runValue (codeAny_builtin F.entry_proto_collect ?_))
  rw [Around.under_plainId F.plain_proto_collect _]
  show wpAny _ A.in1 (newList [] >>= fun l => again (.builtin "list.__iadd__" ⟨[l, .ref a], []⟩)) _ _ s
  refine wpAny_bind (wpAny_newObj_type ?_)
  refine wpAny_pure ⟨plainId_quiet F.plain_list_iadd _, codeAny_builtin F.entry_list_iadd ?_⟩
  rw [Around.under_plainId F.plain_list_iadd _]
  have up : ∀ (h : Heap) (f : Obj → Obj), (∀ b o, s.heap.get? b = some o → h.get? b = some o) → ∀ b o, s.heap.get? b = some o → (h.update s.heap.objs.size f).get? b = some o := fun h f q b o e =>
    (Heap.get?_update_other _ _ (Ne.symm (Nat.ne_of_lt (Heap.lt_size e)))).trans (q b o e)
  have k1 : ∀ b o, s.heap.get? b = some o → (s.heap.push { cls := .type "list", data := .seq ([] : List Value).toArray }).get? b = some o := fun b o e => Heap.get?_push_of_some _ e
  have gty : ∀ {h : Heap}, (∀ b o, s.heap.get? b = some o → h.get? b = some o) → h.IsGen a gg := fun {h} q => hg.keeps q
  show wpAny _ A.in1 (Builtin.List.listExtendWith (.ref s.heap.objs.size) (.ref a) (.ref s.heap.objs.size)) _ _ _
  unfold Builtin.List.listExtendWith
  refine wpAny_bind (wpAny_typeOf (Heap.IsGen.typeIs (s := { s with heap := _ }) (gty k1)) ?_)
  have h1 : Builtin.List.listSameRef (.ref s.heap.objs.size) (.ref a) = false := by simp [Builtin.List.listSameRef, hSa]
  have h2 : (Value.type "generator" == Value.type "list") = false := by decide
  have h3 : (Value.type "generator" == Value.type "tuple") = false := by decide
  simp only [h1, h2, h3, Bool.or_false, Bool.false_eq_true, if_false]
  refine wpAny_bind (wpAny_pyIter_gen (s := { s with heap := _ }) (gty k1) ?_)
  refine wpAny_bind (wpAny_holding ?_)
  unfold Builtin.List.listLengthHint
  refine wpAny_bind (wpAny_specialOf (Heap.IsGen.typeIs (s := { s with heap := _ }) (gty k1)) F.gen_no_len ?_)
  show wpAny _ A.in1 (specialOf (Value.ref a) (Str.ofString "__length_hint__") >>= _) _ _ _
  refine wpAny_bind (wpAny_specialOf (Heap.IsGen.typeIs (s := { s with heap := _ }) (gty k1)) F.gen_no_hint ?_)
  refine wpAny_pure ?_
  show wpAny _ A.in1 (rule "list.extend.makes-room" >>= fun _ => Builtin.List.listTouch (.ref s.heap.objs.size) >>= fun _ =>
    again (.builtin "list.extend.loop" ⟨[.ref s.heap.objs.size, .ref a, .ref s.heap.objs.size], []⟩)) _ _ _
  refine wpAny_bind (wpAny_rule ?_)
  have hS1 : (s.heap.push { cls := .type "list", data := .seq ([] : List Value).toArray }).get? s.heap.objs.size = some { cls := .type "list", data := .seq ([] : List Value).toArray } := Heap.get?_push_size _ rfl
  refine wpAny_bind ?_
  show wpAny _ A.in1 (updateSeq s.heap.objs.size (·.push .none) >>= fun _ => updateSeq s.heap.objs.size (·.pop)) _ _ _
  refine wpAny_bind (wpAny_updateSeq hS1 rfl ?_)
  have hS2 := Heap.get?_update_self (Obj.mapSeq (·.push Value.none)) hS1 rfl
  refine wpAny_updateSeq hS2 rfl ?_
  have hS3 := Heap.get?_update_self (Obj.mapSeq (·.pop)) hS2 rfl
  have k3 := up _ (Obj.mapSeq (·.pop)) (up _ (Obj.mapSeq (·.push Value.none)) k1)
  refine wpAny_pure ⟨plainId_quiet F.plain_extend_loop _, ?_⟩
  have hb3 : AllBare (Shared.setGen { s with heap := ((s.heap.push { cls := .type "list", data := .seq ([] : List Value).toArray }).update s.heap.objs.size (Obj.mapSeq (·.push Value.none))).update s.heap.objs.size (Obj.mapSeq (·.pop)) } gg .running).gens := allBare_setGen (s := { s with heap := _ }) hb rfl
  have hrA : Room (k + 1) A.in1.in1 := (Room.in1 (Room.in1 hr))
  obtain ⟨X', G, seg⟩ := wake A.in1.in1 (some ⟨s.heap.objs.size, false⟩) (Shared.setGen { s with heap := ((s.heap.push { cls := .type "list", data := .seq ([] : List Value).toArray }).update s.heap.objs.size (Obj.mapSeq (·.push Value.none))).update s.heap.objs.size (Obj.mapSeq (·.pop)) } gg .running) hrA hfr
    (fun S e => by cases e; exact ⟨Nat.le_refl _, _, _, hS3, fun _ => rfl, fun z => by cases z⟩) k3 rfl hb3 (fun e => by rw [e] at hc; cases hc)
  refine drainZ (A := A) G (So := some ⟨s.heap.objs.size, false⟩) (tr0 := tr0) rfl hr.hd (by have := hr.dp; show A.depth < _; omega) hSa hSc hz (fun s' H' m' acc c us co hn hS' rv ru => ?_) tr0 [] all _ (.refl _) hc (by simp) (hl.keeps k3) (gty k3) ⟨_, hgs, rfl, seg⟩
  show wpAny _ A (load s.heap.objs.size >>= _) _ _ s'
  refine wpAny_bind (wpAny_load hS' ?_)
  exact wpAny_pure (hQ s' H' m' us acc.toList co.to co.wd (I.call' (ch := fp) co.os co.un co.hok co.bare hex) rv ru)
theorem call_tuple_Z {A : Around} {Q : Value → Shared → Prop} {E : Value → Shared → Prop} {all : List EV} {Sf : Store} (hr : Room (k + 6) A) (hfr : A.frames = some X.stack) (h : GMd X K T P k pins σ S1 H1 m1 tr0 u s) (hc : collT tr0 = some (all, Sf)) (hz : all.length ≤ sizeLine)
    (hQ : ∀ s' H' m' us vs, To P S1 H1 m1 Sf H' m' → Wd K P Sf H' m' T → Inv X pins σ H' s' → Vals us vs → RpL K P Sf H' m' us all → Q (.ref s'.heap.objs.size) { s' with heap := s'.heap.push (tupO vs) }) : wpAny (model X.prog X.w) A (call (.type "tuple") [u]) Q E s := by
  have hg0 := h
  obtain ⟨sc, a, gg, c, fp, rfl, I, hex, ha1, ha2, hg, _⟩ := hg0
  refine callType_codes (Q₁ := fun obj s₁ => s₁.TypeIs obj "tuple" ∧ Q obj s₁) F.called_tuple (F.typeCall_tuple_1 _) F.entry_object_init ?_ fun obj s₁ h₁ => ?_
  · refine codeAny_of_tree ?_
    show wpAny _ A.in1.in1 (do checkBuiltinCall "tuple.__new__" ⟨[.type "tuple", .ref a], []⟩; again (.builtin "tuple.__new__" ⟨[.type "tuple", .ref a], []⟩)) _ _ s
    refine wpAny_bind (wpAny_of_eq (F.newCall_tuple_1 _) (wpAny_pure ⟨plainId_quiet F.plain_tuple_new _, codeAny_builtin F.entry_tuple_new ?_⟩))
    rw [Around.under_plainId F.plain_tuple_new _]
    have hsub := sub_tuple_self
    have hinit := init_tuple_lookup
    have hmh := madeHere_tuple
    have hTI : s.TypeIs (.ref a) "generator" := hg.typeIs
    wp_walk using wpAny_typeOf hTI, collect_Z (k := k) (A := A.in1.in1) (hr := Room.in1 (Room.in1 (hr.mono (by omega)))) (hfr := hfr) (h := h) (hc := hc) (hz := hz)
    intro s' H' m' us vs t w J rv ru
    show wpAny _ _ (Builtin.Tuple.tupleExact vs.toArray >>= fun v => ret v) _ _ _
    unfold Builtin.Tuple.tupleExact
    refine wpAny_bind (wpAny_newObj_type ?_ (by show vs.toArray.size ≤ sizeLine; rw [List.size_toArray, ← rv.length, RpL.length ru]; exact hz))
    refine wpAny_pure ?_
    exact ⟨⟨_, Heap.get?_push_size _ rfl, rfl⟩, hQ s' H' m' us vs t w J rv ru⟩
  · exact ⟨h₁.1, F.args_object_init_2 obj _, object_init_meets F.called_tuple.init.lookup F.called_tuple.made (by decide) X.prog X.w A.in1 _ s₁ ⟨h₁.1, rfl, h₁.2⟩⟩
end

/-! ### the expressions -/
section
variable {ι : Type} {X : ι → Cx} {K : PySem.W.Frag} {T : List Addr} {W : WX} {N : List Str}
/-- what holds of an expression's evaluation, as a reading -/
def tZ (K : PySem.W.Frag) (T : List Addr) (W : WX) (f : EF) : TE := fun σ H Q => ∃ P ρ S m, Wd K P S H m T ∧ EnvR K P S H m ρ σ ∧ Post K T P (RelE K P) S H m σ W (f ρ S) Q
theorem de_tZ {e : Expr} {f : EF} (h : ∀ i, PE (X i) e (tZ K T W f)) : DE X K T W e f := ⟨tZ K T W f, h, fun P ρ S H m σ Q w er p => ⟨P, ρ, S, m, w, er, p⟩⟩
/-- a generator expression: what is needed of its parts -/
structure GenD (X : ι → Cx) (K : PySem.W.Frag) (T : List Addr) (W : WX) (N : List Str) (k : Nat) (e : Expr) (f : IF) (g : GF) (tf : BF) (ef : EF) (vs : List Nat) : Prop where
  run : ∀ (i : ι) {γ δ : Type} {RelC : Store → Hp → (Nat → Addr) → δ → γ → Prop} {P : Addr → Prop} {kk : List Itm → Store → Res γ} {QQ : δ → Hp → Prop} {Q' : Value → Shared → Prop} {pins : List (Addr × Obj)} {s : Shared} {ρ : Rho} {S : Store} {H : Hp} {m : Nat → Addr} {σ : L2.St},
    Inv (X i) pins σ H s → Wd K P S H m T → EnvR K P S H m ρ σ → Post K T P RelC S H m σ W ((f ρ S).bind kk) QQ →
    (∀ S1 H1 m1 its u s', To P S H m S1 H1 m1 → Wd K P S1 H1 m1 T → Post K T P RelC S1 H1 m1 σ W (kk its S1) QQ → GMd (X i) K T P k pins σ S1 H1 m1 (genT g tf ef (wipeR ρ vs) its S1) u s' → Q' u s') →
    wpAny (model (X i).prog (X i).w) (X i).A (eval e (X i).env) Q' (X i).xe s
theorem gen_D {k : Nat} (F : Fam X K N) {c0 p0 : Addr} (hct : ∀ i, CodeT (X i) T c0 p0) (hr : ∀ i, Room (k + 2) (X i).A) {tg elt iter : Expr} {ifs : List Expr} {scope : Scope} {gpos : Pos} {f : IF} {tf : BF} {ef : EF} {g : GF} {ws : List Nat} (own : List (Str × Nat))
    (hi : DI X K T W tg iter f) (hg : DG (gexX X scope k) K T tg ws g) (ht : DTs (gexX X scope k) K T Wn ifs tf) (he : DE (gexX X scope k) K T Wn elt ef)
    (ok : ∀ i, GOk N (X i).env.scope scope own) (hws : ∀ j ∈ ws, j ∈ own.map (·.2) := by decide) (hgf : ∀ i x, genFold iter (X i).env x = pure x := by intro _ _; rfl) :
    GenD X K T W N k (.GeneratorExp elt [⟨tg, iter, ifs, 0⟩] scope gpos) f g tf ef (own.map (·.2)) := by
  obtain ⟨wi, pi, hI⟩ := hi.ex
  obtain ⟨u, pu, hu⟩ := hg.ex
  obtain ⟨tt, pt, hT⟩ := ht.ex
  obtain ⟨te, pe, hE⟩ := he.ex
  exact ⟨fun i {γ δ RelC P kk QQ Q' pins s ρ S H m σ} I w er h hQ => ge_eval F i (hct i) (hr i) (ok i) hws (hgf i) (pi i) hI pu hu pt hT pe hE I w er h hQ⟩
def mkColl (mk : List EV → Store → Res EV) (tr : Tr) : Res EV := match collT tr with
  | some (ys, S) => mk ys S
  | none => .bad
def collF (mk : List EV → Store → Res EV) (f : IF) (g : GF) (tf : BF) (ef : EF) (vs : List Nat) : EF := fun ρ S => (f ρ S).bind fun its S1 => mkColl mk (genT g tf ef (wipeR ρ vs) its S1)
/-- tuple(.. for ..) -/
theorem de_tupleG {k : Nat} {p pos : Pos} {e : Expr} {f : IF} {g : GF} {tf : BF} {ef : EF} {vs : List Nat} (G : GenD X K T W N k e f g tf ef vs) (hr : ∀ i, Room (k + 6) (X i).A) (hm : ∀ i, (X i).mg "tuple" = none) (hg : ∀ i, Gl (X i) "tuple" := by intro _; rfl)
    (he : ∀ i, starEach [e] (X i).env = (false, eval e (X i).env) :: starEach [] (X i).env := by intro _; rfl) : DE X K T W (.Call (.Name "tuple" p) [e] [] pos) (collF mkTup f g tf ef vs) := by
  refine de_tZ fun i => ⟨fun pins s σ H Q I hq => ?_⟩
  obtain ⟨P, ρ, S, m, w, er, h⟩ := hq
  refine wpAny_Call_Name_kw (ld_blt I (hg i) (hm i) boot_tuple ?_)
  refine PyProof.Rows.callWith_type1 ?_ (he i) rfl
  rw [he i]
  show wpAny _ _ (spliced ((false, eval e (X i).env) :: backTo pos (starEach [] (X i).env))) _ _ s
  refine Calls.spliced_cons (G.run i I w er h fun S1 H1 m1 its u s1 t1 w1 h1 hG => ?_)
  refine Calls.spliced_nil ?_
  unfold mkColl at h1
  split at h1
  · rename_i ys Sf q
    unfold mkTup at h1
    split at h1
    · rename_i ds qd
      obtain rfl := evs_of qd
      split at h1
      · rename_i hl
        have hz : (evs ds).length ≤ sizeLine := by simpa [evs] using hl
        refine call_tuple_Z (hr i) (by obtain ⟨sc, _, _, _, _, _, I1, _⟩ := hG; exact I1.ok.frames) hG q hz fun s' H' m' us vs t w2 J rv ru => ?_
        have hfr := J.fresh
        refine ⟨.ref s'.heap.objs.size, _, Inv.tnew (t' := s'.toks) J rv (by rw [ru.length]; exact hz), rfl, ?_⟩
        refine h1 _ m' _ (t.trans (To.new w2 hfr)) (w2.new hfr) (Dq.tup upd_same rfl (w2.fresh hfr) ((To.new w2 hfr).dqAll ru.dq))
      · exact h1.elim
    · exact h1.elim
  · exact h1.elim
end
end Z
set_option maxRecDepth 100000
set_option maxHeartbeats 4000000
/-! Z12: methods; tuples turned round, taken once. -/
namespace Z
open PySem PySem.Spec PyProof.Rows L2

/-! ### t[::-1] -/
section
variable {prog : Program} {w : World} {A : Around} {E : Value → Shared → Prop} {s : Shared}
theorem sliceApplied_rev {sl : Addr} {vs : Value} {n : Nat} {Q : Int × Int × Nat → Shared → Prop} (hs : s.heap.IsSliceOf sl .none .none vs) (ps : IsPart vs (some (-1))) (h : Q ((n : Int) - 1, -1, n) s) : wpAny (model prog w) A (Builtin.Slice.sliceApplied (.ref sl) (pure (n : Int))) Q E s := by
  obtain ⟨os, hos, hcs, hds⟩ := id hs
  unfold Builtin.Slice.sliceApplied Builtin.Slice.sliceFields
  refine wpAny_bind (wpAny_bind (wpAny_field hos hds (x := .none) rfl (wpAny_bind (wpAny_field hos hds (x := .none) rfl (wpAny_bind (wpAny_field hos hds (x := vs) rfl (wpAny_pure ?_)))))))
  refine wpAny_bind (HT.slicePart_ ps ?_)
  show wpAny _ _ (if ((-1 : Int) == 0) = true then _ else _) _ _ s
  rw [if_neg (by decide)]
  refine wpAny_bind (HT.slicePart_ .none (wpAny_bind (HT.slicePart_ .none (wpAny_bind (wpAny_pure ?_)))))
  have e1 : Builtin.Slice.sliceAdjust none none (-1) (n : Int) = ((n : Int) - 1, -1) := by
    unfold Builtin.Slice.sliceAdjust
    simp
  have e2 : Builtin.Slice.slicePlaces ((n : Int) - 1) (-1) (-1) = n := by
    unfold Builtin.Slice.slicePlaces
    simp only [show ¬ ((-1 : Int) > 0) by omega, if_false]
    rw [show (- -1 : Int) = 1 from rfl, Int.ediv_one]
    split <;> omega
  show wpAny _ _ (match Builtin.Slice.sliceAdjust none none (-1) (n : Int) with | (lo, hi) => pure (lo, (-1 : Int), Builtin.Slice.slicePlaces lo hi (-1))) _ _ s
  rw [e1]
  show wpAny _ _ (pure ((n : Int) - 1, (-1 : Int), Builtin.Slice.slicePlaces ((n : Int) - 1) (-1) (-1))) _ _ s
  rw [e2]
  exact wpAny_pure h
theorem fm_congr {α β : Type} {f g : α → Option β} : ∀ (l : List α), (∀ m ∈ l, f m = g m) → l.filterMap f = l.filterMap g
  | [], _ => rfl
  | a :: l, h => by
    have ih := fm_congr l fun m hm => h m (List.mem_cons_of_mem _ hm)
    rw [List.filterMap_cons, List.filterMap_cons, h a List.mem_cons_self, ih]
theorem fm_all {α : Type} : ∀ (ys : List α), (List.range ys.length).filterMap (fun m => ys[m]?) = ys
  | [] => rfl
  | y :: ys => by
    rw [List.length_cons, List.range_succ_eq_map, List.filterMap_cons, List.filterMap_map]
    simp only [List.getElem?_cons_zero]
    congr 1
    exact (fm_congr _ fun m _ => by simp).trans (fm_all ys)
theorem pick_rev (xs : List Value) : ((List.range xs.length).filterMap fun (m : Nat) => xs.toArray[(((xs.length : Int) - 1) + (m : Int) * (-1)).toNat]?).toArray = xs.reverse.toArray := by
  congr 1
  have key : (List.range xs.length).filterMap (fun (m : Nat) => xs.toArray[(((xs.length : Int) - 1) + (m : Int) * (-1)).toNat]?) = (List.range xs.length).filterMap (fun m => xs.reverse[m]?) := by
    refine fm_congr _ fun m hm => ?_
    have hm' := List.mem_range.mp hm
    have e : (((xs.length : Int) - 1) + (m : Int) * (-1)).toNat = xs.length - 1 - m := by omega
    rw [e, List.getElem?_toArray, List.getElem?_reverse hm']
  rw [key]
  have q := fm_all xs.reverse
  rw [List.length_reverse] at q
  exact q
theorem getItem_tuple_rev {t sl : Addr} {items : List Value} {vs : Value} {Q : Value → Shared → Prop} (ht : IsTup s.heap t items.toArray) (hs : s.heap.IsSliceOf sl .none .none vs) (ps : IsPart vs (some (-1)))
    (h : Q (.ref s.heap.objs.size) { s with heap := s.heap.push (tupO items.reverse) }) (hsz : items.length ≤ sizeLine) : wpAny (model prog w) A (getItem (.ref t) (.ref sl)) Q E s := by
  have htake : sizeOk (.seq items.reverse.toArray) := by
    show items.reverse.toArray.size ≤ sizeLine
    rw [List.size_toArray, List.length_reverse]
    exact hsz
  obtain ⟨os, hos, hcs, hds⟩ := id hs
  have hTs : s.TypeIs (.ref sl) "slice" := ⟨os, hos, hcs⟩
  unfold getItem
  try with_reducible refine wpAny_holding ?_
  first | refine wpAny_bind (wpAny_pure ?_) | skip
  refine wpAny_bind (wpAny_sequenceKey ht.typeIs (by decide) ?_)
  refine wpAny_bind (wpAny_callSpecial?_slot (name := Str.ofString "__getitem__") ht.typeIs PyProof.Rows.slot_tuple_getitem
    (wpAny_call_entry PyProof.Rows.slot_tuple_getitem ht.typeIs entry_tuple_getitem ?_ (args_tuple_getitem _ _)))
  show wpAny _ _ (Builtin.Tuple.tupleItemsOf (.ref t) >>= _) _ _ s
  refine wpAny_bind (tupleItemsOf_ ht ?_)
  refine wpAny_bind (wpAny_typeOf hTs ?_)
  rw [if_pos (by decide)]
  have hsz2 : items.toArray.size = items.length := by simp
  refine wpAny_bind ?_
  rw [hsz2]
  refine sliceApplied_rev hs ps ?_
  show wpAny _ _ (if (((items.length : Int) - 1) == 0 && (-1 : Int) == 1 && items.length == items.length) = true then _ else _) _ _ s
  rw [if_neg (by simp), pick_rev]
  first
    | exact wpAny_bind (m := Builtin.Tuple.tupleExact _) (wpAny_newObj_type (wpAny_pure ⟨_, rfl, wpAny_pure h⟩) htake)
    | exact wpAny_bind (m := Builtin.Tuple.tupleExact _) (wpAny_newObj_type (wpAny_bind (wpAny_pure (wpAny_pure ⟨_, rfl, wpAny_pure h⟩))) htake)
    | exact wpAny_bind (wpAny_bind (m := Builtin.Tuple.tupleExact _) (wpAny_newObj_type (wpAny_pure (wpAny_pure ⟨_, rfl, wpAny_pure h⟩)) htake))
    | exact wpAny_bind (wpAny_bind (m := Builtin.Tuple.tupleExact _) (wpAny_newObj_type (wpAny_pure ⟨_, rfl, wpAny_pure h⟩) htake))
end
def tRevT (K : PySem.W.Frag) (te : TE) : TE := fun σ H Q => te σ H fun x H1 => ∃ a xs, x = .ref a ∧ SqT K H1 a xs ∧ NewT H1 Q xs.reverse
theorem pe_revT {X : Cx} {e : Expr} {te : TE} {k : Nat} {p1 p2 p3 pos : Pos} (he : PE X e te) : PE X (.Subscript e (.Slice none none (some (.UnaryOp .USub (.Constant (.int 1) k p1) p2)) p3) pos) (tRevT X.K te) := by
  refine ⟨fun pins s σ H Q I h => ?_⟩
  refine Subscript_ (thn (he.run pins s σ H _ I h) fun v s1 ⟨x, H1, I1, r1, q1⟩ => ?_)
  obtain ⟨a, xs, ex, hx, q⟩ := q1
  subst ex
  cases r1
  have hst : PO X (some (.UnaryOp .USub (.Constant (.int 1) k p1) p2)) (tPart (tUn (rU fun i => .int (-i)) (tC (.int 1)))) := po_some (pe_un un_neg pe_int)
  refine wpAny_Slice (thn (po_none.run pins s1 σ H1 (fun o H2 => o = none ∧ H2 = H1) I1 ⟨rfl, rfl⟩) fun vl s2 ⟨l, H2, I2, pl, el, e2⟩ => ?_)
  subst el e2
  refine thn (po_none.run pins s2 σ H2 (fun o H3 => o = none ∧ H3 = H2) I2 ⟨rfl, rfl⟩) fun vu s3 ⟨u, H3, I3, pu, eu, e3⟩ => ?_
  subst eu e3
  refine thn (hst.run pins s3 σ H3 (fun o H4 => o = some (-1) ∧ H4 = H3) I3 ⟨1, rfl, -1, rfl, rfl, rfl⟩) fun vs s4 ⟨o, H4, I4, ps, eo, e4⟩ => ?_
  subst eo e4
  have I5 : Inv X pins σ H4 { s4 with heap := s4.heap.push { cls := .type "slice", data := .fields #[vl, vu, vs] } } := I4.kept (t' := s4.toks) fun b ob q => Heap.get?_push_of_some _ q
  obtain ⟨its, r, ht, hz⟩ := I5.tuple hx
  have hlen := r.length
  cases pl
  cases pu
  show wpAny (model X.prog X.w) X.A (subscriptTail e (.Slice none none (some (.UnaryOp .USub (.Constant (.int 1) k p1) p2)) p3) (.ref a) (.ref s4.heap.objs.size)) (EP X pins σ Q) X.xe { s4 with heap := s4.heap.push { cls := .type "slice", data := .fields #[.none, .none, vs] } }
  refine tail_any (ops := [.ref a, .ref s4.heap.objs.size]) ht.typeIs (PyProof.Rows.slot_tuple_getitem.lookup) ?_ (by with_unfolding_all rfl)
  refine getItem_tuple_rev ht (Heap.IsSliceOf.new _ .none .none vs) ps ?_ (by omega)
  exact ⟨.ref _, _, Inv.tnew (t' := s4.toks) I5 r.reverse (by rw [List.length_reverse]; exact hz), rfl, q _ _ I5.fresh⟩

/-! ### t * 1 -/
theorem tuple_mul1 (l : Addr) (items : Array Value) (n : Nat) (sl : Array (Option Value)) (u : Tok) :
    Meets (Builtin.«tuple.__mul__» ⟨[.ref l, .int 1 u], []⟩) (fun _ R s => s.heap.get? l = some { cls := .type "tuple", dict := none, data := .seq items n, slots := sl } ∧ R (.ok (.ret (Value.ref l))) s) :=
  .of_wp fun prog w A R s h => by
    obtain ⟨hp, g, d, tk, os⟩ := s
    obtain ⟨hl, h⟩ := h
    have f1 := AutoSeq1.idx_int
    have c0 : (decide ((1 : Int) < -(2 ^ 63)) || decide ((1 : Int) ≥ 2 ^ 63)) = false := by decide
    wp_walk using wpAny_loadPart' hl
    exact ⟨_, rfl, h⟩
def rOnceT (H : Hp) : V → V → VK → Prop := fun x y Q => ∃ l o xs, x = .ref l ∧ y = .int 1 ∧ H l = some (.frz o (.tup xs)) ∧ o.dict = none ∧ Q (.ref l) H
theorem op_once {X : Cx} : OpR X (binaryOp .Mult) (fun x y H Q => rOnceT H x y Q) := by
  intro pins s σ H x y v u Q I rx ry h
  obtain ⟨l, o, xs, rfl, rfl, hT, hd, q⟩ := h
  cases rx
  obtain ⟨t, rfl⟩ := ry
  obtain ⟨ho, hob⟩ := I.hok l _ hT
  obtain ⟨z, its, r, ⟨o', ho', hc, n, hdt⟩⟩ := hob
  rw [ho] at ho'
  cases ho'
  obtain ⟨cls, dd, data, sl⟩ := o
  simp only at hc hd hdt
  subst hc hd hdt
  exact wpAny_binaryOp_repeat_ref (T := "tuple") (U := "int") (by decide) ⟨_, ho, rfl⟩ (fun s' => typeIs_int s' 1 t) noFill_tuple_mul F.fills_int_mul F.slot_int_rmul repeat_tuple F.slot_int_index.lookup
    (call_meets F.slot_int_rmul (typeIs_int s 1 t) F.entry_int_rmul (F.args_int_rmul_2 _ _) (int_rmul_tuple 1 t l its.toArray n none sl)
      ⟨ho, rfl, ⟨_, ho, rfl⟩, call_meets F.slot_tuple_mul ⟨_, ho, rfl⟩ F.entry_tuple_mul (F.args_tuple_mul_2 _ _) (tuple_mul1 l its.toArray n sl t) ⟨ho, ⟨.ref l, H, I, rfl, q⟩⟩⟩)

section
variable {ι : Type} {X : ι → Cx} {K : PySem.W.Frag} {T : List Addr} {W : WX} {N : List Str}
variable {a b c e tg : Expr} {fa fb fc f : EF} {ba bb : BF} {pos : Pos} {es tgs : List Expr} {fs : AF} {g : GF} {gs : GsF} {ws us : List Nat} {n : Nat}
variable {P : Addr → Prop} {S : Store} {H : Hp} {m : Nat → Addr} {σ : L2.St} {st : Stmt} {sts : List Stmt} {sf sg sh : SF}
def gOnce : EV → EV → Store → Res EV := fun x y S => match x, y with
  | .d (.tuple ds), .d (.int i) => if i = 1 then .ok (.d (.tuple ds)) S else .bad
  | _, _ => .bad
theorem opd_once : OpD X K T (binaryOp .Mult) gOnce := by
  refine ⟨fun x y H Q => rOnceT H x y Q, fun _ => op_once, fun P S H m σ W x y v u Q w r1 r2 h => ?_⟩
  unfold gOnce at h
  split at h
  · split at h
    · rename_i e1
      subst e1
      obtain rfl := rp_int r2
      cases r1 with
      | tup g d nn q => exact ⟨_, _, _, rfl, rfl, g, d, Post.done (Rel := RelE K P) w h (Dq.tup g d nn q)⟩
    · exact h.elim
  · exact h.elim
def gMulA : EV → EV → Store → Res EV := gOr gMul gOnce
theorem opd_timesA (F : Fam X K N) : OpD X K T (binaryOp .Mult) gMulA := (opd_times F).or opd_once
/-- t[::-1] of a list, a tuple -/
def revTF (f : EF) : EF := fun ρ S => (f ρ S).bind fun x S1 => match x with
  | .d (.tuple ds) => mkTup (evs ds.reverse) S1
  | _ => .bad
theorem de_revT {k : Nat} {p1 p2 p3 : Pos} (F : Fam X K N) (he : DE X K T W e f) : DE X K T W (.Subscript e (.Slice none none (some (.UnaryOp .USub (.Constant (.int 1) k p1) p2)) p3) pos) (revTF f) := by
  obtain ⟨t, pt, ht⟩ := he.ex
  refine ⟨tRevT K t, fun i => by have := pe_revT (k := k) (p1 := p1) (p2 := p2) (p3 := p3) (pos := pos) (pt i); rw [F.K i] at this; exact this, fun P ρ S H m σ Q w er h => ?_⟩
  refine ht P ρ S H m σ _ w er (Post.step h fun S1 H1 m1 v x t1 w1 r1 h1 => ?_)
  split at h1
  · rename_i ds
    cases r1 with
    | tup g d nn q => exact ⟨_, _, rfl, sqT_frz g, (post_tup w1 q.reverse.rpL h1).2⟩
  · exact h1.elim

/-! ### methods -/
structure MtD (X : ι → Cx) (K : PySem.W.Frag) (T : List Addr) (id : String) (g : EV → List EV → Store → Res EV) : Prop where
  ex : ∃ r : V → List V → Hp → VK → Prop, (∀ i, MtR (X i) id r) ∧ ∀ P S H m σ W x xs v vs Q, Wd K P S H m T → Rp K P S H m v x → RpL K P S H m vs xs → Post K T P (RelE K P) S H m σ W (g x xs S) Q → r v vs H Q
/-- the kinds whose methods are called -/
def isKind (ty : String) (x : EV) (S : Store) : Bool := match x with
  | .d (.str _) => ty == "str"
  | .d (.dict _) => ty == "dict"
  | x => ty == "list" && (itemsLS S x).isSome
theorem isKind_H {ty : String} {x : EV} {v : V} (w : Wd K P S H m T) (r : Rp K P S H m v x) (h : isKind ty x S = true) : tyV K ty v H := by
  unfold isKind at h
  split at h
  · obtain rfl := rp_str r
    exact (show ty = "str" from by simpa using h)
  · cases r with
    | dct g _ _ => exact .inr (.inr (.inl ⟨by simpa using h, .inl ⟨_, g⟩⟩))
  · rw [Bool.and_eq_true] at h
    obtain ⟨ys, e⟩ := Option.isSome_iff_exists.mp h.2
    obtain ⟨a, vs, rfl, hs, _⟩ := itemsLS_H w r e
    exact .inl ⟨by simpa using h.1, vs, hs⟩
def mthF (ty : String) (g : EV → List EV → Store → Res EV) (fo : EF) (fs : AF) : EF := fun ρ S => (fo ρ S).bind fun x S1 => if isKind ty x S1 = true then (fs ρ S1).bind fun xs S2 => g x xs S2 else .bad
theorem de_mth (F : Fam X K N) {ty id : String} {name : Str} {ap : Pos} {o : Expr} {fo : EF} {g : EV → List EV → Store → Res EV} (pa : PlainAttrs ty) (slot : Slot ty name id) (hty : typeOf (.builtin id) = pure (.type "method_descriptor")) (hm : MtD X K T id g) (ho : DE X K T W o fo) (ha : DA X K T W (e :: es) fs)
    (hbase : ∀ i, attributeBase o name (X i).env (eval o (X i).env) = eval o (X i).env := by intro _; rfl)
    (hfew : ∀ i, ((backTo pos (starEach (e :: es) (X i).env)).all (fun x => !x.1) && (backToKw pos (keywordEach [] (X i).env)).all (fun x => x.1.isSome)
      && decide ((e :: es).length + ([] : List Keyword).length + (if ([] : List Keyword).isEmpty then 0 else 1) < 30)) = true := by intro _; rfl)
    (hline : (ap.endLine == pos.line) = true := by rfl) (hs : ∀ i, starEach (e :: es) (X i).env = (false, eval e (X i).env) :: starEach es (X i).env := by intro _; rfl) (hplain : ∀ i, (backTo pos (starEach es (X i).env)).any (·.1) = false := by intro _; rfl) :
    DE X K T W (.Call (.Attribute o name ap) (e :: es) [] pos) (mthF ty g fo fs) := by
  obtain ⟨r, pr, hr⟩ := hm.ex
  obtain ⟨to, po, hO⟩ := ho.ex
  obtain ⟨t, pt, ht⟩ := ha.ex
  refine ⟨tBM K ty r to t, fun i => by have := pe_bm pa slot hty (pr i) (po i) (pt i) (hbase i) (hfew i) hline (hs i) (hplain i); rw [F.K i] at this; exact this, fun P ρ S H m σ Q w er h => ?_⟩
  refine hO P ρ S H m σ _ w er (Post.step h fun S1 H1 m1 v x t1 w1 r1 h1 => ?_)
  split at h1
  · rename_i hk
    refine ⟨isKind_H w1 r1 hk, ht P ρ S1 H1 m1 σ _ w1 (er.to t1) (Post.step h1 fun S2 H2 m2 vs xs t2 w2 r2 h2 => ?_)⟩
    exact hr P S2 H2 m2 σ W x xs v vs Q w2 (t2.rp r1) r2 h2
  · exact h1.elim
theorem de_mth0 (F : Fam X K N) {ty id : String} {name : Str} {ap : Pos} {o : Expr} {fo : EF} {g : EV → List EV → Store → Res EV} (pa : PlainAttrs ty) (slot : Slot ty name id) (hty : typeOf (.builtin id) = pure (.type "method_descriptor")) (hm : MtD X K T id g) (ho : DE X K T W o fo)
    (hbase : ∀ i, attributeBase o name (X i).env (eval o (X i).env) = eval o (X i).env := by intro _; rfl) (hline : (ap.endLine == pos.line) = true := by rfl) :
    DE X K T W (.Call (.Attribute o name ap) [] [] pos) (mthF ty g fo nilF) := by
  obtain ⟨r, pr, hr⟩ := hm.ex
  obtain ⟨to, po, hO⟩ := ho.ex
  refine ⟨tBM0 K ty r to, fun i => by have := pe_bm0 pa slot hty (pr i) (po i) (hbase i) hline; rw [F.K i] at this; exact this, fun P ρ S H m σ Q w er h => ?_⟩
  refine hO P ρ S H m σ _ w er (Post.step h fun S1 H1 m1 v x t1 w1 r1 h1 => ?_)
  split at h1
  · rename_i hk
    exact ⟨isKind_H w1 r1 hk, hr P S1 H1 m1 σ W x [] v [] Q w1 r1 .nil h1⟩
  · exact h1.elim
/-- the own list behind a value -/
def ownOf (S : Store) : EV → Option (Nat × List EV)
  | .own n => match S[n]? with
    | some (.lst xs) => some (n, xs)
    | _ => none
  | _ => none
theorem ownOf_H {x : EV} {v : V} {n : Nat} {xs : List EV} (w : Wd K P S H m T) (r : Rp K P S H m v x) (e : ownOf S x = some (n, xs)) : S[n]? = some (.lst xs) ∧ v = .ref (m n) ∧ ∃ vs, H (m n) = some (.lst vs) ∧ RpL K P S H m vs xs := by
  unfold ownOf at e
  split at e
  · rename_i k
    split at e
    · rename_i q
      cases e
      exact ⟨q, r.1, w.ok _ _ q⟩
    · cases e
  · cases e
def gAppend : EV → List EV → Store → Res EV := fun x ys S => match ownOf S x, ys with
  | some (n, xs), [y] => if xs.length < sizeLine then .ok (.d .none) (S.set n (.lst (xs ++ [y]))) else .bad
  | _, _ => .bad
theorem mtd_append : MtD X K T "list.append" gAppend := by
  refine ⟨rAppend, fun _ => mt_append, fun P S H m σ W x xs v vs Q w r1 r2 h => ?_⟩
  unfold gAppend at h
  split at h
  · rename_i n zs y q
    split at h
    · rename_i hz
      obtain ⟨hS, rfl, us, e1, rl⟩ := ownOf_H w r1 q
      obtain ⟨u, rfl, ru⟩ := rpl_one r2
      exact ⟨_, us, u, rfl, rfl, e1, by rw [rl.length]; exact hz, h _ m .non (To.write w hS) (w.write hS (rl.append (.cons ru .nil))) Dq.non⟩
    · exact h.elim
  · exact h.elim
def gExtend : EV → List EV → Store → Res EV := fun x ys S => match ownOf S x, ys with
  | some (n, xs), [.d (.list ds)] => if xs.length + ds.length ≤ sizeLine then .ok (.d .none) (S.set n (.lst (xs ++ evs ds))) else .bad
  | _, _ => .bad
theorem mtd_extend : MtD X K T "list.extend" gExtend := by
  refine ⟨rExtend, fun _ => mt_extend, fun P S H m σ W x xs v vs Q w r1 r2 h => ?_⟩
  unfold gExtend at h
  split at h
  · rename_i n zs ds q
    split at h
    · rename_i hz
      obtain ⟨hS, rfl, us, e1, rl⟩ := ownOf_H w r1 q
      obtain ⟨u, rfl, ru⟩ := rpl_one r2
      cases ru with
      | lst g nn d => exact ⟨_, _, us, _, rfl, rfl, e1, g, by rw [rl.length, d.length]; exact hz, h _ m .non (To.write w hS) (w.write hS (rl.append d.rpL)) Dq.non⟩
    · exact h.elim
  · exact h.elim
noncomputable def gPop : EV → List EV → Store → Res EV := fun x ys S => match ownOf S x, ys with
  | some (n, xs), [] => match xs[xs.length - 1]? with
    | some y => .ok y (S.set n (.lst xs.dropLast))
    | none => .bad
  | some (n, xs), [.d (.int i)] => if inW i = true then match seqIndex? i xs.length with
    | some k => match xs[k]? with
      | some y => .ok y (S.set n (.lst (xs.eraseIdx k)))
      | none => .bad
    | none => .bad else .bad
  | _, _ => .bad
theorem mtd_pop : MtD X K T "list.pop" gPop := by
  refine ⟨fun x vs H Q => rPop x vs H Q ∨ rPopAt x vs H Q, fun i => fun pins s σ H x xs v us Q I rx rxs h => h.elim (mt_pop pins s σ H x xs v us Q I rx rxs) (mt_popAt pins s σ H x xs v us Q I rx rxs), fun P S H m σ W x xs v vs Q w r1 r2 h => ?_⟩
  unfold gPop at h
  split at h
  · rename_i n zs q
    split at h
    · rename_i y qy
      obtain ⟨hS, rfl, us, e1, rl⟩ := ownOf_H w r1 q
      obtain rfl := rpl_nil r2
      obtain ⟨u, hu, ru⟩ := rl.get qy
      have t := To.write (ys := zs.dropLast) (ws := us.dropLast) w hS
      exact .inl ⟨_, us, u, rfl, rfl, e1, by rw [rl.length]; exact hu, h _ m u t (w.write hS rl.dropLast) (t.rp ru)⟩
    · exact h.elim
  · rename_i n zs i q
    split at h
    · rename_i hw
      split at h
      · rename_i k qk
        split at h
        · rename_i y qy
          obtain ⟨hS, rfl, us, e1, rl⟩ := ownOf_H w r1 q
          obtain ⟨vi, rfl, ri⟩ := rpl_one r2
          obtain rfl := rp_int ri
          obtain ⟨u, hu, ru⟩ := rl.get qy
          have t := To.write (ys := zs.eraseIdx k) (ws := us.eraseIdx k) w hS
          have h2 := inW_iff.mp hw
          exact .inr ⟨_, us, i, k, u, rfl, rfl, e1, by omega, by omega, by rw [rl.length]; exact qk, hu, h _ m u t (w.write hS (rl.eraseIdx k)) (t.rp ru)⟩
        · exact h.elim
      · exact h.elim
    · exact h.elim
  · exact h.elim
def gRevM : EV → List EV → Store → Res EV := fun x ys S => match ownOf S x, ys with
  | some (n, xs), [] => .ok (.d .none) (S.set n (.lst xs.reverse))
  | _, _ => .bad
theorem mtd_reverse : MtD X K T "list.reverse" gRevM := by
  refine ⟨rReverse, fun _ => mt_reverse, fun P S H m σ W x xs v vs Q w r1 r2 h => ?_⟩
  unfold gRevM at h
  split at h
  · rename_i n zs q
    obtain ⟨hS, rfl, us, e1, rl⟩ := ownOf_H w r1 q
    obtain rfl := rpl_nil r2
    exact ⟨_, us, rfl, rfl, e1, h _ m .non (To.write w hS) (w.write hS rl.reverse) Dq.non⟩
  · exact h.elim
/-- texts of a list -/
def strsOf : List PyData → Option (List Str)
  | [] => some []
  | .str x :: r => (strsOf r).map (x :: ·)
  | _ :: _ => none
theorem strsOf_H : ∀ {ds : List PyData} {ys : List Str} {vs : List V}, strsOf ds = some ys → DqAll H (LP P S m) vs ds → vs = ys.map V.str
  | [], ys, vs, h, r => by cases h; cases r; rfl
  | .str x :: t, ys, vs, h, r => by
    have h' : (strsOf t).map (x :: ·) = some ys := h
    cases q : strsOf t with
    | none => rw [q] at h'; cases h'
    | some es =>
      rw [q] at h'
      cases h'
      cases r with
      | cons r1 r2 =>
        cases r1
        rw [strsOf_H q r2]
        rfl
  | .none :: _, _, _, h, _ => by cases h
  | .bool _ :: _, _, _, h, _ => by cases h
  | .int _ :: _, _, _, h, _ => by cases h
  | .list _ :: _, _, _, h, _ => by cases h
  | .tuple _ :: _, _, _, h, _ => by cases h
  | .dict _ :: _, _, _, h, _ => by cases h
def gJoin : EV → List EV → Store → Res EV := fun x ys S => match x, ys with
  | .d (.str a), [.d (.list ds)] => match strsOf ds with
    | some zs => if (zs.map (·.length)).sum + zs.length * a.length ≤ 16777216 then .ok (.d (.str (Txt.join a zs))) S else .bad
    | none => .bad
  | _, _ => .bad
theorem mtd_join (F : Fam X K N) : MtD X K T "str.join" gJoin := by
  refine ⟨_, fun i => by have := mt_join (X := X i); rw [F.K i] at this; exact this, fun P S H m σ W x xs v vs Q w r1 r2 h => ?_⟩
  unfold gJoin at h
  split at h
  · rename_i a ds
    split at h
    · rename_i zs q
      split at h
      · rename_i hz
        obtain rfl := rp_str r1
        obtain ⟨u, rfl, ru⟩ := rpl_one r2
        cases ru with
        | lst g nn d =>
          have e := strsOf_H q d
          subst e
          exact ⟨a, _, zs, rfl, rfl, .inl (.of g), hz, Post.done (Rel := RelE K P) w h (Dq.str _)⟩
      · exact h.elim
    · exact h.elim
  · exact h.elim

/-! ### t.index(x) of a tuple -/
/-- the first place of an equal one -/
def idxOf (d : PyData) : List PyData → Nat → Option Nat
  | [], _ => none
  | z :: r, j => if PyData.eqv z d = true then some j else idxOf d r (j + 1)
theorem idxOf_some {d : PyData} : ∀ {ds : List PyData} {k j : Nat}, idxOf d ds k = some j → ∃ i z, j = k + i ∧ ds[i]? = some z ∧ PyData.eqv z d = true ∧ ∀ m z', m < i → ds[m]? = some z' → PyData.eqv z' d = false
  | [], _, _, h => by cases h
  | z :: r, k, j, h => by
    unfold idxOf at h
    split at h
    · rename_i hz
      cases h
      exact ⟨0, z, rfl, rfl, hz, fun m z' hm _ => by omega⟩
    · rename_i hz
      obtain ⟨i, y, e1, e2, e3, e4⟩ := idxOf_some h
      refine ⟨i + 1, y, by omega, by simpa using e2, e3, fun m z' hm hz' => ?_⟩
      cases m with
      | zero => simp at hz'; subst hz'; simpa using hz
      | succ m => exact e4 m z' (by omega) (by simpa using hz')
def rIndexT (K : PySem.W.Frag) : V → List V → Hp → VK → Prop := fun x xs H Q => ∃ (a : Addr) (o : Obj) (vs : List V) (y : V) (d : PyData) (ds : List PyData) (j : Nat) (z : PyData), x = V.ref a ∧ xs = [y] ∧ H a = some (.frz o (.tup vs)) ∧ o.dict = none ∧ DpAll K H vs ds ∧ Dp K H y d ∧
  SeqAt.shaped (.tuple ds) = true ∧ SeqAt.shaped d = true ∧ ds[j]? = some z ∧ PyData.eqv z d = true ∧ (∀ (m : Nat) (z' : PyData), m < j → ds[m]? = some z' → PyData.eqv z' d = false) ∧ Q (.int (j : Nat)) H
end
end Z
set_option maxRecDepth 100000
set_option maxHeartbeats 4000000
/-! Z13: enumerate, zip of lists and tuples in any mixture. -/
namespace Z
open PySem PySem.Spec PyProof.Rows L2

/-! ### lists (true), tuples (false) -/
def SqB (b : Bool) (K : PySem.W.Frag) (H : Hp) (a : Addr) (xs : List V) : Prop := match b with
  | true => SqL K H a xs
  | false => SqT K H a xs
def PlB (b : Bool) (h : Heap) (a : Addr) (items : Array Value) : Prop := match b with
  | true => h.IsList a items
  | false => h.IsTuple a items
def ItB (b : Bool) (h : Heap) (it a : Addr) (i : Nat) : Prop := match b with
  | true => h.IsListIter it a i
  | false => h.IsTupleIter it a i
def itN : Bool → String
  | true => "list_iterator"
  | false => "tuple_iterator"
def itO (b : Bool) (a : Addr) : Obj := { cls := .type (itN b), data := .fields #[.ref a, .int 0 0] }
section
variable {X : Cx} {pins : List (Addr × Obj)} {σ : L2.St} {H : Hp} {s : Shared}
theorem inv_B {b : Bool} {a : Addr} {xs : List V} (I : Inv X pins σ H s) (h : SqB b X.K H a xs) : ∃ its : List Value, Vals xs its ∧ PlB b s.heap a its.toArray ∧ xs.length ≤ sizeLine := by
  cases b with
  | true => obtain ⟨its, r, p, z⟩ := I.list h; exact ⟨its, r, p.isList, z⟩
  | false => obtain ⟨its, r, p, z⟩ := I.tuple h; exact ⟨its, r, p, z⟩
theorem inj_B {b : Bool} {a : Addr} {xs ys : List V} (I : Inv X pins σ H s) (h : SqB b X.K H a xs) (h' : SqB b X.K H a ys) : xs = ys := by
  cases b with
  | true => exact I.list_inj h h'
  | false => exact I.tuple_inj h h'
end
theorem itB_obj {b : Bool} {h : Heap} {it a : Addr} {i : Nat} (st : ItB b h it a i) : ∃ o, h.get? it = some o ∧ o.cls = .type (itN b) ∧ ∃ fs, o.data = .fields fs := by
  cases b with
  | true => obtain ⟨o, e, c, d⟩ := st; exact ⟨o, e, c, _, d⟩
  | false => obtain ⟨o, e, c, d⟩ := st; exact ⟨o, e, c, _, d⟩
theorem itB_at {b : Bool} {h h' : Heap} {it a : Addr} {i : Nat} (st : ItB b h it a i) (k : ∀ o, h.get? it = some o → h'.get? it = some o) : ItB b h' it a i := by
  cases b with
  | true => exact Heap.IsListIter.at st k
  | false => exact Heap.IsTupleIter.at st k
theorem plB_obj {b : Bool} {h : Heap} {a : Addr} {items : Array Value} (p : PlB b h a items) : ∃ o, h.get? a = some o ∧ ∃ n, o.data = .seq items n := by
  cases b with
  | true => obtain ⟨o, e, c, n, d⟩ := p; exact ⟨o, e, n, d⟩
  | false => obtain ⟨o, e, c, n, d⟩ := p; exact ⟨o, e, n, d⟩
theorem plB_ne {b c : Bool} {h : Heap} {a it l : Addr} {items : Array Value} {i : Nat} (p : PlB b h a items) (st : ItB c h it l i) : a ≠ it := fun e => by
  obtain ⟨o, h1, n, h2⟩ := plB_obj p
  obtain ⟨o', h3, _, fs, h4⟩ := itB_obj st
  rw [e, h3] at h1
  cases h1
  rw [h4] at h2
  cases h2
theorem draws_B {prog : Program} {w : World} {A : Around} (b : Bool) (hh : A.handled = none) (it a : Addr) (hne : a ≠ it) (items : Array Value) :
    Draws prog w A it [it, a] items.size (fun i v => items[i]? = some v) (fun i h => ItB b h it a i ∧ PlB b h a items) := by
  cases b with
  | true => exact Draws.list hh it a hne items
  | false => exact Draws.tuple hh it a hne items
theorem begins_B (b : Bool) (a : Addr) (items : Array Value) : Begins (.ref a) (itO b a) fun h => PlB b h a items := by
  cases b with
  | true => exact begins_list a items
  | false => exact begins_tuple a items
theorem itB_new {b : Bool} {h : Heap} {it a : Addr} (e : h.get? it = some (itO b a)) : ItB b h it a 0 := by
  cases b with
  | true => exact ⟨_, e, rfl, rfl⟩
  | false => exact ⟨_, e, rfl, rfl⟩

/-! ### enumerate -/
def ItE (b : Bool) (K : PySem.W.Frag) (a : Addr) : It :=
  ⟨fun i H => ∃ (xs : List V) (x : V), SqB b K H a xs ∧ xs[i]? = some x, fun i H v H' => ∃ T x, v = .ref T ∧ H T = none ∧ H' = upd H T (.tup [.int (i : Nat), x]) ∧ ∀ xs, SqB b K H a xs → xs[i]? = some x, fun i H => ∃ xs : List V, SqB b K H a xs ∧ xs.length = i⟩
theorem isEnum_obj {h : Heap} {e it : Addr} {k : Int} {old : Value} (x : IsEnum h e it k old) : ∃ o, h.get? e = some o ∧ o.cls = .type "enumerate" ∧ ∃ fs, o.data = .fields fs := ⟨_, x, rfl, _, rfl⟩
theorem turn_enumB {P : Program} {w : World} {K : PySem.W.Frag} {elts : List Expr} {kk : Nat} {tpos : Pos} (b : Bool) (a e it : Addr) :
    Turn P w K (.Tuple elts kk tpos) (ItE b K a) [e, it] e (fun i h => (∃ old, IsEnum h e it ((0 : Int) + ((i : Nat) : Int)) old) ∧ ItB b h it a i ∧ e ≠ it) where
  mem := by simp
  obj := fun i h st c hc => by
    obtain ⟨⟨old, he⟩, hi, _⟩ := st
    obtain ⟨o, ho, _, fs, hd⟩ := itB_obj hi
    have e' : c = e ∨ c = it := by simpa using hc
    rcases e' with z | z
    · rw [z]; exact ⟨_, he, fun v q => nomatch q⟩
    · rw [z]; exact ⟨o, ho, fun v q => by rw [hd] at q; cases q⟩
  keep := fun i h h' st k => let ⟨⟨old, he⟩, hi, hne⟩ := st; ⟨⟨old, k e (by simp) _ he⟩, itB_at hi fun o q => k it (by simp) o q, hne⟩
  item := by
    intro X hP hw hK hc i pins s σ H E I hf st hg
    subst hP hw hK
    obtain ⟨⟨old, he⟩, hit, hne⟩ := st
    obtain ⟨xs, x, hq, hx⟩ := hg
    obtain ⟨its, rv, p, hz⟩ := inv_B I hq
    obtain ⟨u, hu, ru⟩ := rv.get hx
    have hai : a ≠ it := plB_ne p hit
    have hea : e ≠ a := fun z => by
      obtain ⟨o, h1, n, h2⟩ := plB_obj p
      rw [← z, he] at h1
      cases h1
      cases h2
    have W := GoesN.enumFrom (prog := X.prog) (w := X.w) (A := X.A) (elts := elts) (x1 := kk) (pos := tpos) 0 (draws_B b (A := X.A.in1) (I.ok.hd hc) it a hai its.toArray) e hne (by simp [hne, hea]) (by simp)
    have hi : i < its.toArray.size := by
      rw [List.size_toArray]
      exact (List.getElem?_eq_some_iff.mp hu).1
    refine wpAny_mono (W.goes i s (fun v s' => ∃ x H', Inv X pins σ H' s' ∧ RelV x v ∧ (ItE b X.K a).yld i H x H' ∧ ((∃ old, IsEnum s'.heap e it ((0 : Int) + (((i + 1 : Nat) : Nat) : Int)) old) ∧ ItB b s'.heap it a (i + 1) ∧ e ≠ it) ∧ ∀ c ∈ [e, it], H' c = none) E hi ⟨⟨old, he⟩, hit, p⟩ fun v h' tk hY hst' hk htk => ?_) (fun _ _ h => h) fun _ _ h => h
    obtain ⟨T, t, y, rfl, hsz, hy, hT⟩ := hY
    obtain ⟨⟨old', he'⟩, hit', _⟩ := hst'
    have ey : y = u := by
      rw [List.getElem?_toArray, hu] at hy
      exact (Option.some.inj hy).symm
    subst ey
    obtain ⟨oT, hoT, hcT, nT, hdT⟩ := hT
    have new : ObjOk X.prog X.w (upd H T (.tup [.int (i : Nat), x])) h' T (.tup [.int (i : Nat), x]) :=
      ⟨by show 2 ≤ sizeLine; decide, [.int ((0 : Int) + (i : Nat)) t, y], .cons ⟨t, by simp⟩ (.cons ru .nil), ⟨oT, hoT, hcT, nT, by simpa using hdT⟩⟩
    have I1 : Inv X pins σ (upd H T (.tup [.int (i : Nat), x])) { s with heap := h', toks := tk } := I.turnedNew (ch := [e, it]) (fun c o hb q => hk c o hb q) hf hsz new
    refine ⟨.ref T, _, I1, rfl, ⟨T, x, rfl, I.hok.fresh hsz, rfl, fun ys hy => by rw [inj_B I hy hq]; exact hx⟩, ⟨⟨old', he'⟩, hit', hne⟩, fun c hc => ?_⟩
    have hb' : c < s.heap.objs.size := by
      have e' : c = e ∨ c = it := by simpa using hc
      rcases e' with z | z
      · rw [z]; exact Heap.lt_size he
      · rw [z]; obtain ⟨o, ho, _⟩ := itB_obj hit; exact Heap.lt_size ho
    rw [upd_ne (Nat.ne_of_lt (Nat.lt_of_lt_of_le hb' hsz))]
    exact (hf c hc).1
  done := by
    intro X hP hw hK hc i pins s σ H E I hf st hg
    subst hP hw hK
    obtain ⟨⟨old, he⟩, hit, hne⟩ := st
    obtain ⟨xs, hq, hx⟩ := hg
    obtain ⟨its, rv, p, hz⟩ := inv_B I hq
    have hai : a ≠ it := plB_ne p hit
    have hea : e ≠ a := fun z => by
      obtain ⟨o, h1, n, h2⟩ := plB_obj p
      rw [← z, he] at h1
      cases h1
      cases h2
    have W := GoesN.enumFrom (prog := X.prog) (w := X.w) (A := X.A) (elts := elts) (x1 := kk) (pos := tpos) 0 (draws_B b (A := X.A.in1) (I.ok.hd hc) it a hai its.toArray) e hne (by simp [hne, hea]) (by simp)
    have hi : its.toArray.size = i := by
      rw [List.size_toArray, ← rv.length]
      exact hx
    exact W.stops s (fun s1 => Inv X pins σ H s1) E (by rw [hi]; exact ⟨⟨old, he⟩, hit, p⟩) fun h' tk hk htk => I.turnedL (ch := [e, it]) hk hf
  self := fun A i s Q E st h => let ⟨⟨_, he⟩, _⟩ := st; wpAny_pyIter_enum he h
theorem F_typeCall_enum1 (a : Value) : checkTypeCall "enumerate" ⟨[a], []⟩ = pure () := F.typeCall_enumerate_1 a
theorem call_enumT {prog : Program} {w : World} {A : Around} {E : Value → Shared → Prop} {s : Shared} {l : Addr} {items : Array Value} {Q : Value → Shared → Prop} (hL : s.heap.IsTuple l items)
    (h : ∀ h', IsEnum h' (s.heap.objs.size + 1) s.heap.objs.size 0 .none → h'.IsTupleIter s.heap.objs.size l 0 → h'.objs.size = s.heap.objs.size + 2 →
      (∀ b o, s.heap.get? b = some o → h'.get? b = some o) → Q (.ref (s.heap.objs.size + 1)) { s with heap := h' }) :
    wpAny (model prog w) A (call (.type "enumerate") [.ref l]) Q E s := by
  have meets : Meets (Builtin.«enumerate.__new__» ⟨[.type "enumerate", .ref l], []⟩) (fun _ R s => s.heap.IsTuple l items ∧
      R (.ok (.ret (.ref (s.heap.push { cls := .type "tuple_iterator", data := .fields #[.ref l, .int 0 0] }).objs.size)))
        { s with heap := (s.heap.push { cls := .type "tuple_iterator", data := .fields #[.ref l, .int 0 0] }).push { cls := .type "enumerate", data := .fields #[.none, .bool false, .ref s.heap.objs.size, rawInt 0, .none, .none] } }) :=
    .of_wp fun prog w A R s h => by
      obtain ⟨hp, g, d, tk, os⟩ := s; obtain ⟨hl, h⟩ := h
      have hsub := sub_enumerate
      have hL : Heap.IsTuple (Shared.heap ⟨hp, g, d, tk, os⟩) l items := hl
      wp_walk
      refine wpAny_stack_any fun st => wpAny_pure ?_
      split
      · rename_i c _ _ _ _ _
        cases (c == Value.type "enumerate")
        · wp_walk using wpAny_pyIter_tuple hL
          exact ⟨_, rfl, h⟩
        · wp_walk using wpAny_pyIter_tuple hL
          exact ⟨_, rfl, h⟩
      · wp_walk using wpAny_pyIter_tuple hL
        exact ⟨_, rfl, h⟩
  refine callType_new F.called_enumerate (by decide) (F.typeCall_enumerate_1 _) (F.newCall_enumerate_1 _) (fun obj => F.args_object_init_2 obj _) F.entry_enumerate_new meets ⟨hL, ?_⟩
  have hz : (s.heap.push { cls := .type "tuple_iterator", data := .fields #[.ref l, .int 0 0] }).objs.size = s.heap.objs.size + 1 := Heap.size_push ..
  show _ ∧ _
  rw [hz]
  have he : IsEnum ((s.heap.push { cls := .type "tuple_iterator", data := .fields #[.ref l, .int 0 0] }).push
      { cls := .type "enumerate", data := .fields #[.none, .bool false, .ref s.heap.objs.size, rawInt 0, .none, .none] }) (s.heap.objs.size + 1) s.heap.objs.size 0 .none := by
    have := Heap.get?_push_size (s.heap.push { cls := .type "tuple_iterator", data := .fields #[.ref l, .int 0 0] })
      (o := { cls := .type "enumerate", data := .fields #[.none, .bool false, .ref s.heap.objs.size, rawInt 0, .none, .none] }) rfl
    rw [hz] at this; exact this
  refine ⟨⟨_, he, rfl⟩, h _ he ⟨_, Heap.get?_push_of_some _ (Heap.get?_push_size _ rfl), rfl, rfl⟩ (by rw [Heap.size_push, hz]) fun b o x => Heap.get?_push_of_some _ (Heap.get?_push_of_some _ x)⟩
theorem call_enumB {prog : Program} {w : World} {A : Around} {E : Value → Shared → Prop} {s : Shared} (b : Bool) {l : Addr} {items : Array Value} {Q : Value → Shared → Prop} (hL : PlB b s.heap l items)
    (h : ∀ h', IsEnum h' (s.heap.objs.size + 1) s.heap.objs.size 0 .none → ItB b h' s.heap.objs.size l 0 → h'.objs.size = s.heap.objs.size + 2 →
      (∀ b o, s.heap.get? b = some o → h'.get? b = some o) → Q (.ref (s.heap.objs.size + 1)) { s with heap := h' }) :
    wpAny (model prog w) A (call (.type "enumerate") [.ref l]) Q E s := by
  cases b with
  | true => exact call_enumerate_list hL h
  | false => exact call_enumT hL h
def iEnumB (K : PySem.W.Frag) (ta : TA) : TI := fun σ H R => ta σ H fun vs H1 => ∃ b a xs, vs = [.ref a] ∧ SqB b K H1 a xs ∧ R (ItE b K a) H1
theorem pi_enumB {X : Cx} {e : Expr} {ta : TA} {p pos tpos : Pos} {elts : List Expr} {kk : Nat} (hg : Gl X "enumerate") (hm : X.mg "enumerate" = none) (ha : PA X [e] ta) (hs : starEach [e] X.env = [(false, eval e X.env)] := by rfl) :
    PI X (.Tuple elts kk tpos) (.Call (.Name "enumerate" p) [e] [] pos) (iEnumB X.K ta) := by
  refine ⟨fun pins s σ H R I h => ?_⟩
  refine Call_ (ld_blt I hg hm boot_enumerate (PyProof.Rows.callWith_type1 (thn (ha.run pos pins s σ H _ I h) fun us s1 ⟨vs, H1, I1, r1, q1⟩ => ?_) hs rfl))
  obtain ⟨b, a, xs, ex, hq, q⟩ := q1
  subst ex
  cases r1 with
  | cons r rr =>
    cases rr
    cases r
    obtain ⟨its, rv, p', hz⟩ := inv_B I1 hq
    refine call_enumB b p' fun h' he hit hsz hk => wpAny_pyIter_enum he ?_
    have I2 : Inv X pins σ H1 { s1 with heap := h' } := I1.kept (t' := s1.toks) hk
    refine ⟨s1.heap.objs.size + 1, [s1.heap.objs.size + 1, s1.heap.objs.size], _, _, H1, rfl, I2, turn_enumB b a (s1.heap.objs.size + 1) s1.heap.objs.size, ⟨⟨.none, he⟩, hit, Nat.succ_ne_self _⟩, fun c hb => ?_, q⟩
    have e' : c = s1.heap.objs.size + 1 ∨ c = s1.heap.objs.size := by simpa using hb
    have hle : s1.heap.objs.size ≤ c := by
      rcases e' with z | z
      · rw [z]; exact Nat.le_add_right _ _
      · rw [z]; exact Nat.le_refl _
    exact I1.fpOk hle (I1.hok.fresh hle)

/-! ### zip -/
def ItZ (b c : Bool) (K : PySem.W.Frag) (a d : Addr) : It :=
  ⟨fun i H => ∃ (xs ys : List V) (x y : V), SqB b K H a xs ∧ SqB c K H d ys ∧ xs[i]? = some x ∧ ys[i]? = some y,
    fun i H v H' => ∃ T x y, v = .ref T ∧ H T = none ∧ H' = upd H T (.tup [x, y]) ∧ (∀ xs, SqB b K H a xs → xs[i]? = some x) ∧ ∀ ys, SqB c K H d ys → ys[i]? = some y,
    fun i H => ∃ xs ys : List V, SqB b K H a xs ∧ SqB c K H d ys ∧ min xs.length ys.length = i⟩
def ZTn (b c : Bool) (a d z TI TO i1 i2 : Addr) (i : Nat) (h : Heap) : Prop :=
  IsZip h z TI TO .none ∧ IsTupOf2 h TI (.ref i1) (.ref i2) ∧ (∃ x y, IsTupOf2 h TO x y) ∧ ItB b h i1 a i ∧ ItB c h i2 d i
/-- the cells lie apart -/
structure ZSep (z TI TO i1 i2 : Addr) : Prop where
  TIz : TI ≠ z
  TOz : TO ≠ z
  TITO : TI ≠ TO
  TI1 : TI ≠ i1
  TI2 : TI ≠ i2
  z1 : z ≠ i1
  z2 : z ≠ i2
  T1 : TO ≠ i1
  T2 : TO ≠ i2
  i12 : i1 ≠ i2
theorem zsep {b c : Bool} {a d z TI TO i1 i2 : Addr} {i : Nat} {h : Heap} {xs ys : Array Value} (S : ZSep z TI TO i1 i2) (st : ZTn b c a d z TI TO i1 i2 i h) (p : PlB b h a xs) (q : PlB c h d ys) (na : a ≠ TO) (nd : d ≠ TO) : ZipSep2 z TI TO i1 i2 [i1, a] [i2, d] := by
  obtain ⟨hz, hTI, ⟨x, y, hTO⟩, h1, h2⟩ := st
  have nz : ∀ {b : Bool} {a : Addr} {xs : Array Value}, PlB b h a xs → a ≠ z := fun {b a xs} p e => by
    obtain ⟨o, q1, n, q2⟩ := plB_obj p
    rw [e, hz] at q1
    cases q1
    cases q2
  have nza := (nz p).symm
  have nzd := (nz q).symm
  have e1 := (plB_ne q h1).symm
  have e2 := (plB_ne p h2).symm
  exact {
    TIz := S.TIz
    TOz := S.TOz
    TITO := S.TITO
    TIi1 := S.TI1
    mem1 := (by simp)
    zf1 := (by simp [S.z1, nza])
    Tf1 := (by simp [S.T1, na.symm])
    TIi2 := S.TI2
    mem2 := (by simp)
    zf2 := (by simp [S.z2, nzd])
    Tf2 := (by simp [S.T2, nd.symm])
    sep1_2 := (by simp [S.i12, e1])
    sep2_1 := (by simp [S.i12.symm, e2]) }
theorem turn_zipB {P : Program} {w : World} {K : PySem.W.Frag} {elts : List Expr} {kk : Nat} {tpos : Pos} (b c : Bool) {a d z TI TO i1 i2 : Addr} (S : ZSep z TI TO i1 i2) :
    Turn P w K (.Tuple elts kk tpos) (ItZ b c K a d) [z, TI, TO, i1, i2] z (fun i h => ZTn b c a d z TI TO i1 i2 i h ∧ a ≠ TO ∧ d ≠ TO) where
  mem := by simp
  obj := fun i h st e he => by
    obtain ⟨⟨hz, hTI, ⟨x, y, hTO⟩, h1, h2⟩, _⟩ := st
    obtain ⟨o1, e1, _, _, d1⟩ := itB_obj h1
    obtain ⟨o2, e2, _, _, d2⟩ := itB_obj h2
    have e' : e = z ∨ e = TI ∨ e = TO ∨ e = i1 ∨ e = i2 := by simpa using he
    rcases e' with q | q | q | q | q
    · rw [q]; exact ⟨_, hz, fun v q => nomatch q⟩
    · rw [q]; exact ⟨_, hTI, fun v q => nomatch q⟩
    · rw [q]; exact ⟨_, hTO, fun v q => nomatch q⟩
    · rw [q]; exact ⟨o1, e1, fun v q => by rw [d1] at q; cases q⟩
    · rw [q]; exact ⟨o2, e2, fun v q => by rw [d2] at q; cases q⟩
  keep := fun i h h' st k => by
    obtain ⟨⟨hz, hTI, ⟨x, y, hTO⟩, h1, h2⟩, na, nd⟩ := st
    exact ⟨⟨k z (by simp) _ hz, k TI (by simp) _ hTI, ⟨x, y, k TO (by simp) _ hTO⟩, itB_at h1 fun o q => k i1 (by simp) o q, itB_at h2 fun o q => k i2 (by simp) o q⟩, na, nd⟩
  item := by
    intro X hP hw hK hc i pins s σ H E I hf st hg
    subst hP hw hK
    obtain ⟨st, na, nd⟩ := st
    obtain ⟨xs, ys, x, y, hqx, hqy, hx, hy⟩ := hg
    obtain ⟨its, rv, p, _⟩ := inv_B I hqx
    obtain ⟨its2, rv2, p2, _⟩ := inv_B I hqy
    obtain ⟨u, hu, ru⟩ := rv.get hx
    obtain ⟨u2, hu2, ru2⟩ := rv2.get hy
    have SS := zsep S st p p2 na nd
    obtain ⟨hz, hTI, hTO, h1, h2⟩ := st
    have W := GoesN.zip2 (prog := X.prog) (w := X.w) (A := X.A) (elts := elts) (x1 := kk) (pos := tpos) SS (draws_B b (A := X.A.in1) (I.ok.hd hc) i1 a (plB_ne p h1) its.toArray) (draws_B c (A := X.A.in1) (I.ok.hd hc) i2 d (plB_ne p2 h2) its2.toArray)
    have hi : i < min its.toArray.size its2.toArray.size := by
      rw [List.size_toArray, List.size_toArray]
      have q1 := (List.getElem?_eq_some_iff.mp hu).1
      have q2 := (List.getElem?_eq_some_iff.mp hu2).1
      omega
    refine wpAny_mono (W.goes i s (fun v s' => ∃ x H', Inv X pins σ H' s' ∧ RelV x v ∧ (ItZ b c X.K a d).yld i H x H' ∧ (ZTn b c a d z TI TO i1 i2 (i + 1) s'.heap ∧ a ≠ TO ∧ d ≠ TO) ∧ ∀ e ∈ [z, TI, TO, i1, i2], H' e = none) E hi ⟨hz, hTI, hTO, ⟨h1, p⟩, h2, p2⟩ fun v h' tk hY hst' hk htk => ?_) (fun _ _ h => h) fun _ _ h => h
    obtain ⟨T, y1, y2, rfl, hsz, hy1, hy2, hT⟩ := hY
    obtain ⟨hz', hTI', hTO', ⟨h1', _⟩, h2', _⟩ := hst'
    have ey1 : y1 = u := by
      rw [List.getElem?_toArray, hu] at hy1
      exact (Option.some.inj hy1).symm
    have ey2 : y2 = u2 := by
      rw [List.getElem?_toArray, hu2] at hy2
      exact (Option.some.inj hy2).symm
    subst ey1 ey2
    obtain ⟨oT, hoT, hcT, nT, hdT⟩ := hT
    have new : ObjOk X.prog X.w (upd H T (.tup [x, y])) h' T (.tup [x, y]) := ⟨by show 2 ≤ sizeLine; decide, [y1, y2], .cons ru (.cons ru2 .nil), ⟨oT, hoT, hcT, nT, hdT⟩⟩
    have I1 : Inv X pins σ (upd H T (.tup [x, y])) { s with heap := h', toks := tk } := I.turnedNew (ch := [z, TO, i1, i2]) (fun e o hb q => hk e o hb q) (fun e he => hf e (by
      have : e = z ∨ e = TO ∨ e = i1 ∨ e = i2 := by simpa using he
      rcases this with q | q | q | q <;> simp [q])) hsz new
    refine ⟨.ref T, _, I1, rfl, ⟨T, x, y, rfl, I.hok.fresh hsz, rfl, fun l hl => by rw [inj_B I hl hqx]; exact hx, fun l hl => by rw [inj_B I hl hqy]; exact hy⟩, ⟨⟨hz', hTI', hTO', h1', h2'⟩, na, nd⟩, fun e he => ?_⟩
    have hlt : e < s.heap.objs.size := by
      have e' : e = z ∨ e = TI ∨ e = TO ∨ e = i1 ∨ e = i2 := by simpa using he
      obtain ⟨x0, y0, hTO⟩ := hTO
      rcases e' with q | q | q | q | q
      · rw [q]; exact Heap.lt_size hz
      · rw [q]; exact Heap.lt_size hTI
      · rw [q]; exact Heap.lt_size hTO
      · rw [q]; obtain ⟨_, e1, _⟩ := itB_obj h1; exact Heap.lt_size e1
      · rw [q]; obtain ⟨_, e2, _⟩ := itB_obj h2; exact Heap.lt_size e2
    rw [upd_ne (Nat.ne_of_lt (Nat.lt_of_lt_of_le hlt hsz))]
    exact (hf e he).1
  done := by
    intro X hP hw hK hc i pins s σ H E I hf st hg
    subst hP hw hK
    obtain ⟨st, na, nd⟩ := st
    obtain ⟨xs, ys, hqx, hqy, hend⟩ := hg
    obtain ⟨its, rv, p, _⟩ := inv_B I hqx
    obtain ⟨its2, rv2, p2, _⟩ := inv_B I hqy
    have SS := zsep S st p p2 na nd
    obtain ⟨hz, hTI, hTO, h1, h2⟩ := st
    have W := GoesN.zip2 (prog := X.prog) (w := X.w) (A := X.A) (elts := elts) (x1 := kk) (pos := tpos) SS (draws_B b (A := X.A.in1) (I.ok.hd hc) i1 a (plB_ne p h1) its.toArray) (draws_B c (A := X.A.in1) (I.ok.hd hc) i2 d (plB_ne p2 h2) its2.toArray)
    have hi : min its.toArray.size its2.toArray.size = i := by
      rw [List.size_toArray, List.size_toArray, ← rv.length, ← rv2.length]
      exact hend
    exact W.stops s (fun s1 => Inv X pins σ H s1) E (by rw [hi]; exact ⟨hz, hTI, hTO, ⟨h1, p⟩, h2, p2⟩) fun h' tk hk htk => I.turnedL (ch := [z, TO, i1, i2]) hk fun e he => hf e (by
      have : e = z ∨ e = TO ∨ e = i1 ∨ e = i2 := by simpa using he
      rcases this with q | q | q | q <;> simp [q])
  self := fun A i s Q E st h => wpAny_pyIter_zip st.1.1 h
def iZipB (K : PySem.W.Frag) (ta : TA) : TI := fun σ H R => ta σ H fun vs H1 => ∃ b c a d xs ys, vs = [.ref a, .ref d] ∧ SqB b K H1 a xs ∧ SqB c K H1 d ys ∧ R (ItZ b c K a d) H1
theorem pi_zipB {X : Cx} {e e2 : Expr} {ta : TA} {p pos tpos : Pos} {elts : List Expr} {kk : Nat} (hg : Gl X "zip") (hm : X.mg "zip" = none) (ha : PA X [e, e2] ta)
    (hs : starEach [e, e2] X.env = (false, eval e X.env) :: starEach [e2] X.env := by rfl) (hpl : (backTo pos (starEach [e2] X.env)).any (·.1) = false := by rfl) :
    PI X (.Tuple elts kk tpos) (.Call (.Name "zip" p) [e, e2] [] pos) (iZipB X.K ta) := by
  refine ⟨fun pins s σ H R I h => ?_⟩
  refine Call_ (ld_blt I hg hm PyProof.Rows.boot_zip (PyProof.Rows.callWith_type1 (thn (ha.run pos pins s σ H _ I h) fun us s1 ⟨vs, H1, I1, r1, q1⟩ => ?_) hs hpl))
  obtain ⟨b, c, a, d, xs, ys, ex, hqx, hqy, q⟩ := q1
  subst ex
  cases r1 with
  | cons r rr =>
    cases rr with
    | cons r' rr =>
      cases rr
      cases r
      cases r'
      obtain ⟨its, rv, p1, _⟩ := inv_B I1 hqx
      obtain ⟨its2, rv2, p2, _⟩ := inv_B I1 hqy
      have la : a < s1.heap.objs.size := by obtain ⟨o, ho, _⟩ := plB_obj p1; exact Heap.lt_size ho
      have ld : d < s1.heap.objs.size := by obtain ⟨o, ho, _⟩ := plB_obj p2; exact Heap.lt_size ho
      refine zip_begins2 (begins_B b a its.toArray) (begins_B c d its2.toArray) p1 p2 fun h' hz hTI hTO h1 h2 hsz hk => wpAny_pyIter_zip hz ?_
      have I2 : Inv X pins σ H1 { s1 with heap := h' } := I1.kept (t' := s1.toks) hk
      have SS : ZSep (s1.heap.objs.size + 4) (s1.heap.objs.size + 2) (s1.heap.objs.size + 3) s1.heap.objs.size (s1.heap.objs.size + 1) := by
        generalize s1.heap.objs.size = n
        exact ⟨show (n + 2 : Nat) ≠ n + 4 by omega, show (n + 3 : Nat) ≠ n + 4 by omega, show (n + 2 : Nat) ≠ n + 3 by omega, show (n + 2 : Nat) ≠ n by omega, show (n + 2 : Nat) ≠ n + 1 by omega, show (n + 4 : Nat) ≠ n by omega, show (n + 4 : Nat) ≠ n + 1 by omega, show (n + 3 : Nat) ≠ n by omega, show (n + 3 : Nat) ≠ n + 1 by omega, show (n : Nat) ≠ n + 1 by omega⟩
      have nT : ∀ e : Addr, e < s1.heap.objs.size → e ≠ s1.heap.objs.size + 3 := fun e he => Nat.ne_of_lt (Nat.lt_of_lt_of_le he (Nat.le_add_right _ _))
      refine ⟨s1.heap.objs.size + 4, [s1.heap.objs.size + 4, s1.heap.objs.size + 2, s1.heap.objs.size + 3, s1.heap.objs.size, s1.heap.objs.size + 1], _, _, H1, rfl, I2, turn_zipB b c (a := a) (d := d) SS, ⟨⟨hz, hTI, ⟨_, _, hTO⟩, itB_new h1, itB_new h2⟩, nT a la, nT d ld⟩, fun e he => ?_, q⟩
      have e' : e = s1.heap.objs.size + 4 ∨ e = s1.heap.objs.size + 2 ∨ e = s1.heap.objs.size + 3 ∨ e = s1.heap.objs.size ∨ e = s1.heap.objs.size + 1 := by simpa using he
      have hle : s1.heap.objs.size ≤ e := by
        rcases e' with z | z | z | z | z
        · rw [z]; exact Nat.le_add_right _ _
        · rw [z]; exact Nat.le_add_right _ _
        · rw [z]; exact Nat.le_add_right _ _
        · rw [z]; exact Nat.le_refl _
        · rw [z]; exact Nat.le_add_right _ _
      exact I1.fpOk hle (I1.hok.fresh hle)
end Z
set_option maxRecDepth 100000
set_option maxHeartbeats 4000000
/-! Z14: what loops walk (enumerate, zip); list(range(..)); calls by keywords; dicts made; index in a tuple. -/
namespace Z
open PySem PySem.Spec PyProof.Rows L2
section
variable {ι : Type} {X : ι → Cx} {K : PySem.W.Frag} {T : List Addr} {W : WX} {N : List Str}
variable {a b c e tg : Expr} {fa fb fc f : EF} {ba bb : BF} {pos : Pos} {es tgs : List Expr} {fs : AF} {g : GF} {gs : GsF} {ws us : List Nat} {n : Nat}
variable {P : Addr → Prop} {S : Store} {H : Hp} {m : Nat → Addr} {σ : L2.St} {st : Stmt} {sts : List Stmt} {sf sg sh : SF}

/-! ### enumerate, zip -/
/-- the items of a value that stays as it is: a list, a tuple -/
def fixB : EV → Option (List PyData)
  | .d (.list ds) => some ds
  | .scr ds => some ds
  | .d (.tuple ds) => some ds
  | _ => none
theorem fixB_H {v : V} {x : EV} {ds : List PyData} (r : Rp K P S H m v x) (e : fixB x = some ds) : ∃ (b : Bool) (a : Addr) (vs : List V), v = .ref a ∧ SqB b K H a vs ∧ vs.length = ds.length ∧
    ∀ (P2 : Addr → Prop) (S2 : Store) (H2 : Hp) (m2 : Nat → Addr), (∀ a, P2 a → P a ∨ H a = none) → To P S H m S2 H2 m2 → SqB b K H2 a vs ∧ RpL K P2 S2 H2 m2 vs (evs ds) := by
  cases x with
  | own _ => cases e
  | scr xs =>
    cases e
    obtain ⟨a, vs, rfl, h, r⟩ := r
    refine ⟨true, a, vs, rfl, h.elim (fun z => .inl z.1) (fun z => .inr z), r.length, fun P2 S2 H2 m2 hp t => ⟨?_, ((To.prv t).dqAll (DqAll.prv hp r)).rpL⟩⟩
    exact h.elim (fun ⟨h1, h2⟩ => .inl (t.kpt.rd h1 h2 (fun ps e => by cases e))) fun z => .inr z
  | d y =>
    cases y <;> cases e
    · cases r with
      | lst g n q => exact ⟨true, _, _, rfl, .of g, q.length, fun P2 S2 H2 m2 hp t => ⟨.of (t.kpt _ _ g n (fun ps e => by cases e)), ((To.prv t).dqAll (DqAll.prv hp q)).rpL⟩⟩
    · cases r with
      | tup g dn n q => exact ⟨false, _, _, rfl, sqT_frz g, q.length, fun P2 S2 H2 m2 hp t => ⟨sqT_frz (t.kpt _ _ g n (fun ps e => by cases e)), ((To.prv t).dqAll (DqAll.prv hp q)).rpL⟩⟩
theorem rpi_row {a : Addr} {vs : List V} {xs : List EV} (hp : H a = none) (w : Wd K P S H m T) (r : RpL K P S H m vs xs) : RpI K P S (upd H a (.tup vs)) m (.ref a) (.row xs) :=
  ⟨a, vs, rfl, .of upd_same, (To.new w hp).rpL r⟩
def enL : List PyData → Nat → List Itm
  | [], _ => []
  | d :: r, k => .row [.d (.int k), .d d] :: enL r (k + 1)
theorem enL_get : ∀ {ds : List PyData} {k i : Nat} {it : Itm}, (enL ds k)[i]? = some it → ∃ d, ds[i]? = some d ∧ it = .row [.d (.int ((k + i : Nat) : Int)), .d d]
  | [], _, _, _, h => by simp [enL] at h
  | d :: r, k, 0, it, h => by
    simp [enL] at h
    exact ⟨d, rfl, h.symm⟩
  | d :: r, k, i + 1, it, h => by
    obtain ⟨d', h1, h2⟩ := enL_get (ds := r) (k := k + 1) (i := i) (by simpa [enL] using h)
    refine ⟨d', by simpa using h1, ?_⟩
    have e : k + 1 + i = k + (i + 1) := by omega
    rw [h2, e]
theorem enL_len : ∀ (ds : List PyData) (k : Nat), (enL ds k).length = ds.length
  | [], _ => rfl
  | _ :: r, k => congrArg (· + 1) (enL_len r (k + 1))
def enF (f : AF) : IF := fun ρ S => (f ρ S).bind fun xs S1 => match xs with
  | [x] => match fixB x with
    | some ds => .ok (enL ds 0) S1
    | none => .bad
  | _ => .bad
/-- the walk stops where the items end -/
theorem di_enum (F : Fam X K N) {elts : List Expr} {kk : Nat} {tpos p : Pos} (hm : ∀ i, (X i).mg "enumerate" = none) (ha : DA X K T W [a] fs) (hg : ∀ i, Gl (X i) "enumerate" := by intro _; rfl) (hs : ∀ i, starEach [a] (X i).env = [(false, eval a (X i).env)] := by intro _; rfl) :
    DI X K T W (.Tuple elts kk tpos) (.Call (.Name "enumerate" p) [a] [] pos) (enF fs) := by
  obtain ⟨t, pt, ht⟩ := ha.ex
  refine ⟨iEnumB K t, fun i => by have := pi_enumB (elts := elts) (kk := kk) (tpos := tpos) (p := p) (pos := pos) (hg i) (hm i) (pt i) (hs i); rw [F.K i] at this; exact this, fun P ρ S H m σ R w er h => ?_⟩
  refine ht P ρ S H m σ _ w er (Post.step h fun S1 H1 m1 vs xs t1 w1 r1 h1 => ?_)
  split at h1
  · rename_i x
    split at h1
    · rename_i ds q
      obtain ⟨v, rfl, rv⟩ := rpl_one r1
      obtain ⟨b, a, us, rfl, hq, hl, hk⟩ := fixB_H rv q
      refine ⟨b, a, us, rfl, hq, Post.done (Rel := RelW K T P) w1 h1 fun P2 S2 H2 m2 i hp t w2 => ?_⟩
      obtain ⟨hq2, r2⟩ := hk P2 S2 H2 m2 hp t
      refine ⟨fun hi => ⟨us, hq2, by rw [hl, ← enL_len ds 0]; exact hi⟩, fun it hit => ?_⟩
      obtain ⟨d, hd, rfl⟩ := enL_get hit
      have he : (evs ds)[i]? = some (.d d) := by unfold evs; rw [List.getElem?_map, hd]; rfl
      obtain ⟨y, e1, e2⟩ := r2.get he
      refine ⟨⟨us, y, hq2, e1⟩, fun x H3 ⟨T0, y0, ex, hT, eH, hy⟩ => ?_⟩
      subst ex
      subst eH
      have z := hy us hq2
      rw [e1] at z
      cases z
      refine ⟨To.new w2 hT, w2.new hT, rpi_row hT w2 (.cons ?_ (.cons e2 .nil))⟩
      have : (0 + i : Nat) = i := Nat.zero_add i
      rw [this]
      exact Dq.int _
    · exact h1.elim
  · exact h1.elim
def zpL : List PyData → List PyData → List Itm
  | x :: xs, y :: ys => .row [.d x, .d y] :: zpL xs ys
  | _, _ => []
theorem zpL_get : ∀ {xs ys : List PyData} {i : Nat} {it : Itm}, (zpL xs ys)[i]? = some it → ∃ x y, xs[i]? = some x ∧ ys[i]? = some y ∧ it = .row [.d x, .d y]
  | x :: xs, y :: ys, 0, it, h => by
    simp [zpL] at h
    exact ⟨x, y, rfl, rfl, h.symm⟩
  | x :: xs, y :: ys, i + 1, it, h => by
    obtain ⟨a, b, h1, h2, h3⟩ := zpL_get (xs := xs) (ys := ys) (i := i) (by simpa [zpL] using h)
    exact ⟨a, b, by simpa using h1, by simpa using h2, h3⟩
  | [], _, _, _, h => by simp [zpL] at h
  | _ :: _, [], _, _, h => by simp [zpL] at h
theorem zpL_len : ∀ (xs ys : List PyData), (zpL xs ys).length = min xs.length ys.length
  | x :: xs, y :: ys => by simp only [zpL, List.length_cons, zpL_len xs ys]; omega
  | [], ys => by simp [zpL]
  | _ :: _, [] => by simp [zpL]
def zpF (f : AF) : IF := fun ρ S => (f ρ S).bind fun xs S1 => match xs with
  | [x, y] => match fixB x, fixB y with
    | some ds, some es => .ok (zpL ds es) S1
    | _, _ => .bad
  | _ => .bad
theorem di_zip (F : Fam X K N) {elts : List Expr} {kk : Nat} {tpos p : Pos} (hm : ∀ i, (X i).mg "zip" = none) (ha : DA X K T W [a, b] fs) (hg : ∀ i, Gl (X i) "zip" := by intro _; rfl) (hs : ∀ i, starEach [a, b] (X i).env = (false, eval a (X i).env) :: starEach [b] (X i).env := by intro _; rfl)
    (hpl : ∀ i, (backTo pos (starEach [b] (X i).env)).any (·.1) = false := by intro _; rfl) :
    DI X K T W (.Tuple elts kk tpos) (.Call (.Name "zip" p) [a, b] [] pos) (zpF fs) := by
  obtain ⟨t, pt, ht⟩ := ha.ex
  refine ⟨iZipB K t, fun i => by have := pi_zipB (elts := elts) (kk := kk) (tpos := tpos) (p := p) (pos := pos) (hg i) (hm i) (pt i) (hs i) (hpl i); rw [F.K i] at this; exact this, fun P ρ S H m σ R w er h => ?_⟩
  refine ht P ρ S H m σ _ w er (Post.step h fun S1 H1 m1 vs xs t1 w1 r1 h1 => ?_)
  split at h1
  · rename_i x y
    split at h1
    · rename_i ds es q q'
      obtain ⟨v, u, rfl, rv, ru⟩ := rpl_two r1
      obtain ⟨b, a, us, rfl, hq, hl, hk⟩ := fixB_H rv q
      obtain ⟨c, d, ws, rfl, hq', hl', hk'⟩ := fixB_H ru q'
      refine ⟨b, c, a, d, us, ws, rfl, hq, hq', Post.done (Rel := RelW K T P) w1 h1 fun P2 S2 H2 m2 i hp t w2 => ?_⟩
      obtain ⟨hq2, r2⟩ := hk P2 S2 H2 m2 hp t
      obtain ⟨hq3, r3⟩ := hk' P2 S2 H2 m2 hp t
      refine ⟨fun hi => ⟨us, ws, hq2, hq3, by rw [hl, hl', ← zpL_len]; exact hi⟩, fun it hit => ?_⟩
      obtain ⟨x1, x2, hx1, hx2, rfl⟩ := zpL_get hit
      have he : (evs ds)[i]? = some (.d x1) := by unfold evs; rw [List.getElem?_map, hx1]; rfl
      have he' : (evs es)[i]? = some (.d x2) := by unfold evs; rw [List.getElem?_map, hx2]; rfl
      obtain ⟨y1, e1, e2⟩ := r2.get he
      obtain ⟨y2, e3, e4⟩ := r3.get he'
      refine ⟨⟨us, ws, y1, y2, hq2, hq3, e1, e3⟩, fun x H3 ⟨T0, z1, z2, ex, hT, eH, hy, hy'⟩ => ?_⟩
      subst ex
      subst eH
      have q1 := hy us hq2
      rw [e1] at q1
      cases q1
      have q2 := hy' ws hq3
      rw [e3] at q2
      cases q2
      exact ⟨To.new w2 hT, w2.new hT, rpi_row hT w2 (.cons e2 (.cons e4 .nil))⟩
    · exact h1.elim
  · exact h1.elim

/-! ### list(range(..)) -/
def intL (lo : Int) (n : Nat) : List PyData := (List.range n).map fun k : Nat => .int (lo + (k : Int))
theorem dqAll_rg {a b : Int} : DqAll H (LP P S m) (rgV a b) (intL a (b - a).toNat) := by
  unfold rgV intL
  generalize (b - a).toNat = n
  generalize hl : List.range n = l
  clear hl
  induction l with
  | nil => exact .nil
  | cons k l ih => exact .cons (Dq.int _) ih
def lrF (mk : List EV → Store → Res EV) (f : EF) : EF := fun ρ S => (f ρ S).bind fun x S1 => match x with
  | .d (.int n) => if n ≤ 16000000 ∧ -(2 ^ 62) ≤ n then mk (evs (intL 0 n.toNat)) S1 else .bad
  | _ => .bad
theorem de_listRgW {mk : List EV → Store → Res EV} (hmk : ∀ {P : Addr → Prop} {S : Store} {H : Hp} {m : Nat → Addr} {σ : L2.St} {W : WX} {xs : List EV} {vs : List V} {Q : VK}, Wd K P S H m T → RpL K P S H m vs xs → Post K T P (RelE K P) S H m σ W (mk xs S) Q → vs.length ≤ sizeLine ∧ ∀ p, H p = none → Q (.ref p) (upd H p (.lst vs)))
    (F : Fam X K N) {p p2 pos2 : Pos} (hm : ∀ i, (X i).mg "list" = none) (hm2 : ∀ i, (X i).mg "range" = none) (he : DE X K T W e f) (hg : ∀ i, Gl (X i) "list" := by intro _; rfl) (hg2 : ∀ i, Gl (X i) "range" := by intro _; rfl)
    (na : ∀ i, starEach [.Call (.Name "range" p2) [e] [] pos2] (X i).env = (false, eval (.Call (.Name "range" p2) [e] [] pos2) (X i).env) :: starEach [] (X i).env := by intro _; rfl) (na2 : ∀ i, starEach [e] (X i).env = (false, eval e (X i).env) :: starEach [] (X i).env := by intro _; rfl) :
    DE X K T W (.Call (.Name "list" p) [.Call (.Name "range" p2) [e] [] pos2] [] pos) (lrF mk f) := by
  obtain ⟨t, pt, ht⟩ := he.ex
  refine ⟨_, fun i => pe_listRg (F.calm i) (hg i) (hm i) (prg_1 (hg2 i) (hm2 i) (pt i) (na2 i)) (na i), fun P ρ S H m σ Q w er h => ?_⟩
  refine ht P ρ S H m σ _ w er (Post.step h fun S1 H1 m1 v x t1 w1 r1 h1 => ?_)
  split at h1
  · rename_i n
    split at h1
    · rename_i hn
      obtain rfl := rp_int r1
      refine ⟨n, rfl, ⟨by omega, by omega, by omega, by omega, by omega⟩, ?_⟩
      have e0 : (n - 0).toNat = n.toNat := by rw [Int.sub_zero]
      have q := dqAll_rg (H := H1) (P := P) (S := S1) (m := m1) (a := 0) (b := n)
      rw [e0] at q
      exact (hmk w1 q.rpL h1).2
    · exact h1.elim
  · exact h1.elim
theorem de_listRg (F : Fam X K N) {p p2 pos2 : Pos} (hm : ∀ i, (X i).mg "list" = none) (hm2 : ∀ i, (X i).mg "range" = none) (he : DE X K T W e f) (hg : ∀ i, Gl (X i) "list" := by intro _; rfl) (hg2 : ∀ i, Gl (X i) "range" := by intro _; rfl)
    (na : ∀ i, starEach [.Call (.Name "range" p2) [e] [] pos2] (X i).env = (false, eval (.Call (.Name "range" p2) [e] [] pos2) (X i).env) :: starEach [] (X i).env := by intro _; rfl) (na2 : ∀ i, starEach [e] (X i).env = (false, eval e (X i).env) :: starEach [] (X i).env := by intro _; rfl) :
    DE X K T W (.Call (.Name "list" p) [.Call (.Name "range" p2) [e] [] pos2] [] pos) (lrF mkLst f) := de_listRgW post_lst F hm hm2 he hg hg2 na na2

/-! ### calls by keywords -/
structure DK (X : ι → Cx) (K : PySem.W.Frag) (T : List Addr) (W : WX) (kws : List Keyword) (f : AF) : Prop where
  ex : ∃ t : TA, (∀ i, PK (X i) kws t) ∧ ∀ P ρ S H m σ Q, Wd K P S H m T → EnvR K P S H m ρ σ → Post K T P (RelA K P) S H m σ W (f ρ S) Q → t σ H Q
theorem dk_nil : DK X K T W [] nilF := ⟨tNil, fun _ => pk_nil, fun P ρ S H m σ Q w er h => Post.done (Rel := RelA K P) (v := []) w h .nil⟩
theorem dk_cons {nm : Option Str} {kp : Pos} {kws : List Keyword} (he : DE X K T W e f) (hs : DK X K T W kws fs) : DK X K T W (⟨nm, e, kp⟩ :: kws) (consF f fs) := by
  obtain ⟨t, pt, ht⟩ := he.ex
  obtain ⟨u, pu, hu⟩ := hs.ex
  refine ⟨tCons t u, fun i => pk_cons (pt i) (pu i), fun P ρ S H m σ Q w er h => ?_⟩
  refine ht P ρ S H m σ _ w er (Post.step h fun S1 H1 m1 v x t1 w1 r1 h1 => ?_)
  refine hu P ρ S1 H1 m1 σ _ w1 (er.to t1) (Post.step h1 fun S2 H2 m2 vs xs t2 w2 r2 h2 => ?_)
  exact Post.done (Rel := RelA K P) (v := v :: vs) w2 h2 (.cons (t2.rp r1) r2)
/-- how keywords are put in the parameters' order: places of the values (positional ones first) -/
def perm {α : Type} (ix : List Nat) (l : List α) : List α := ix.filterMap fun i => l[i]?
theorem perm_vals {ix : List Nat} {vs : List V} {us : List Value} (r : Vals vs us) : Vals (perm ix vs) (perm ix us) := by
  unfold perm
  induction ix with
  | nil => exact .nil
  | cons i ix ih =>
    rw [List.filterMap_cons, List.filterMap_cons]
    by_cases hi : i < vs.length
    · obtain ⟨u, hu, ru⟩ := r.get (List.getElem?_eq_getElem hi)
      rw [List.getElem?_eq_getElem hi, hu]
      exact .cons ru ih
    · rw [List.getElem?_eq_none (by omega), List.getElem?_eq_none (by rw [← r.length]; omega)]
      exact ih
theorem perm_rpl {ix : List Nat} {vs : List V} {xs : List EV} (r : RpL K P S H m vs xs) : RpL K P S H m (perm ix vs) (perm ix xs) := by
  unfold perm
  induction ix with
  | nil => exact .nil
  | cons i ix ih =>
    rw [List.filterMap_cons, List.filterMap_cons]
    by_cases hi : i < xs.length
    · obtain ⟨u, hu, ru⟩ := r.get (List.getElem?_eq_getElem hi)
      rw [List.getElem?_eq_getElem hi, hu]
      exact .cons ru ih
    · have hl := r.length
      rw [List.getElem?_eq_none (show vs.length ≤ i by omega), List.getElem?_eq_none (show xs.length ≤ i by omega)]
      exact ih
/-- f(k = v, ..): ix the places of the values in the parameters' order -/
def callKF (n : Nat) (ix : List Nat) (G : GFn) (fs : AF) : EF := fun ρ S => (fs ρ S).bind fun xs S1 => if (perm ix xs).length = n then G (perm ix xs) S1 else .bad
theorem pe_callK0 {X : Cx} {CX : CXT} {k : Nat} {f : Addr} {fd : FuncData} {ps ks : List Str} {sp : Sp} {E : L2.St → XK} {x : Str} {p pos : Pos} {kws : List Keyword} {tk : TA} {g : List Value → List Value → List Value} {gV : List V → List V → List V}
    (F : FnOk X.prog X.w X.K X.mg X.base CX k f fd ps sp) (hr : Room k X.A) (hg : Gl X x) (hm : X.mg x = some (.ref f)) (hk : PySem.W.keepIn X.K (.ref f) = true) (hb : KBinds X.K fd ps ks g gV) (hx : ∀ σ, PassesAt CX X σ (E σ))
    (hkw : PK X kws tk) (hall : (backToKw pos (keywordEach kws X.env)).all (·.1.isSome) = true) (hks : (backToKw pos (keywordEach kws X.env)).filterMap (·.1) = ks)
    (hdb : (x == ("__debug__" : Str)) = false) (hpl : ((backTo pos (starEach [] X.env)).any (·.1) || (backToKw pos (keywordEach kws X.env)).any (·.1.isNone)) = false) :
    PE X (.Call (.Name x p) [] kws pos) (fun σ H Q => tk σ H fun zs H2 => sp (gV [] zs) H2 Q (E σ)) := by
  refine ⟨fun pins s σ H Q I h => ?_⟩
  refine wpAny_Call_Name_kw (ld_glob I hg hm ?_ hdb)
  refine PySem.W.callWith_KW0 (h₀ := X.base) I.ok.mod.kin hk hall (thn (hkw.run pos pins s σ H _ I h) fun ws s2 ⟨zs, H2, I2, rz, q2⟩ => ⟨I2.kIn, ?_⟩) hpl
  rw [hks]
  have r2 := hb.rel (vs := []) (us := []) .nil rz
  have hl : (g [] ws).length = ps.length := by rw [← r2.length]; exact F.len _ _ _ _ q2
  refine wpAny_call (codeAny_mono (F.run X.A X.stack s2 H2 ⟨[], ks.zip ws⟩ (g [] ws) (gV [] zs) Q (E σ) hr I2.env0 (hb.to s2 [] ws I2.kIn hl) r2 q2) fun r s' hq => ?_)
  cases r with
  | error e => exact hx σ pins H2 s2 e s' I2 hq
  | ok fl =>
    cases fl with
    | ret u => exact I2.after hq
    | next => exact False.elim hq
    | brk => exact False.elim hq
    | cont => exact False.elim hq
theorem de_callK {k : Nat} {fa : Addr} {fd : FuncData} {ps ks : List Str} {x : Str} {p : Pos} {G : GFn} {kws : List Keyword} (ix : List Nat) (hF : ∀ i, FnOk (X i).prog (X i).w (X i).K (X i).mg (X i).base (L2.CX (X i).prog (X i).w) k fa fd ps (spG K T ps.length G)) (hr : ∀ i, Room k (X i).A)
    (hm : ∀ i, (X i).mg x = some (.ref fa)) (hk : ∀ i, PySem.W.keepIn (X i).K (.ref fa) = true) (hb : ∀ i, KBinds (X i).K fd ps ks (fun us ws => perm ix (us ++ ws)) (fun us ws => perm ix (us ++ ws))) (tk : ∀ i, Takes (X i) W) (ha : DK X K T W kws fs) (hg : ∀ i, Gl (X i) x := by intro _; rfl)
    (hall : ∀ i, (backToKw pos (keywordEach kws (X i).env)).all (·.1.isSome) = true := by intro _; rfl) (hks : ∀ i, (backToKw pos (keywordEach kws (X i).env)).filterMap (·.1) = ks := by intro _; rfl)
    (hdb : (x == ("__debug__" : Str)) = false := by decide) (hpl : ∀ i, ((backTo pos (starEach [] (X i).env)).any (·.1) || (backToKw pos (keywordEach kws (X i).env)).any (·.1.isNone)) = false := by intro _; rfl) :
    DE X K T W (.Call (.Name x p) [] kws pos) (callKF ps.length ix G fs) := by
  obtain ⟨t, pt, ht⟩ := ha.ex
  refine ⟨_, fun i => pe_callK0 (hF i) (hr i) (hg i) (hm i) (hk i) (hb i) (fun σ => passAt (tk i) σ) (pt i) (hall i) (hks i) hdb (hpl i), fun P ρ S H m σ Q w er h => ?_⟩
  refine ht P ρ S H m σ _ w er (Post.step h fun S1 H1 m1 vs xs t1 w1 r1 h1 => ?_)
  split at h1
  · rename_i hl
    refine ⟨?_, P, S1, m1, perm ix xs, w1, ?_, Post.wx h1 fun c d H z => z⟩
    · rw [List.nil_append, (perm_rpl r1).length]; exact hl
    · rw [List.nil_append]; exact perm_rpl r1
  · exact h1.elim

/-! ### t.index(x) -/
theorem DqAll.dpA {vs : List V} {ds : List PyData} (h : DqAll H (LP P S m) vs ds) (c : PyData.canLayAll0 ds = true) : DpAll K H vs ds := DqAll.dp h c
theorem idx_room {X : Cx} {ds : List PyData} {d : PyData} (h : SeqAt.shaped d = true) (hu : X.A.units + 65 < cLine) : X.A.units + 1 + min (PyData.depthAll ds) d.depth < cLine := room_in_shaped h hu
theorem mt_indexT {X : Cx} (hu : X.A.units + 65 < cLine) : MtR X "tuple.index" (rIndexT X.K) := by
  intro pins s σ H x xs v us Q I rx rxs h
  obtain ⟨a, o, vs, y, d, ds, j, z, rfl, rfl, hq, hdn, ha, hy, sl, sd, hz, hzj, hno, q⟩ := h
  cases rx
  cases rxs with
  | cons ry rt =>
    rename_i uy ut
    cases rt
    obtain ⟨bs, r1⟩ := Dp.reads I d y uy hy ry
    have hxs : PyData.canLayAll0 ds = true := SeqAt.canLay_of_shaped sl
    have hroom : X.A.units + 1 + min (PyData.depthAll ds) d.depth < cLine := room_in_shaped sd hu
    obtain ⟨its, rv, ⟨⟨cls, dd, data, sls⟩, ho, hc, n, hdt⟩, hlen⟩ := I.tuple (sqT_frz (K := X.K) hq)
    simp only at hc hdt
    subst hc hdt
    obtain ⟨as, h4⟩ := Dp.readsAll I ds _ its ha rv
    have hn : its.length = ds.length := SeqAt.ReadsAll.length ds its as h4
    have hmap : its.map (SeqAt.readOf s.heap) = ds := SeqAt.readsAll_map ds its as hxs h4
    obtain ⟨hjd, _⟩ := List.getElem?_eq_some_iff.mp hz
    have hjl : j < its.length := by omega
    have hj : j < its.toArray.size := by simpa using hjl
    have at_ : ∀ (m : Nat) (hm : m < its.toArray.size) (z' : PyData), ds[m]? = some z' → SeqAt.readOf s.heap its.toArray[m] = z' := by
      intro m hm z' hz'
      have hml : m < its.length := by simpa using hm
      rw [← hmap, List.getElem?_map, List.getElem?_eq_getElem hml] at hz'
      have e1 : SeqAt.readOf s.heap its[m] = z' := Option.some.inj (show some (SeqAt.readOf s.heap its[m]) = some z' from hz')
      simpa using e1
    refine call_meets PySem.F.slot_tuple_index ⟨_, ho, rfl⟩ PySem.F.entry_tuple_index (PySem.F.args_tuple_index_2 _ _)
      (TI.tuple_indexAt a its.toArray n dd sls uy (fun u => PyData.eqv (SeqAt.readOf s.heap u) d) j hj ?_ ?_) ⟨ho, SeqAt.items_eqAt (vs := its.toArray) (show ReadsAll s.heap its.toArray.toList ds as from h4) r1 hxs (SeqAt.canLay_of_shaped sd) hroom, ?_⟩
    · show PyData.eqv (SeqAt.readOf s.heap its.toArray[j]) d = true
      rw [at_ j hj z hz]
      exact hzj
    · intro m hm hmj
      have hmd : m < ds.length := by omega
      have hz' : ds[m]? = some ds[m] := List.getElem?_eq_getElem hmd
      show PyData.eqv (SeqAt.readOf s.heap its.toArray[m]) d = false
      rw [at_ m hm _ hz']
      exact hno m _ hmj hz'
    · exact ⟨.int (j : Nat), H, I.tok _, ⟨_, rfl⟩, q⟩
def tIdxT (K : PySem.W.Frag) (to te : TE) : TE := fun σ H Q => to σ H fun x H1 => (∃ a o vs, x = V.ref a ∧ H1 a = some (.frz o (.tup vs)) ∧ o.dict = none) ∧ tCons te tNil σ H1 fun xs H2 => rIndexT K x xs H2 Q
theorem slot_ti : Slot "tuple" "index" "tuple.index" := PySem.F.slot_tuple_index
theorem pe_idxT {X : Cx} {o e : Expr} {to te : TE} {ap pos : Pos} (hu : X.A.units + 65 < cLine) (hpa : PlainAttrs "tuple") (hty : typeOf (.builtin "tuple.index") = pure (.type "method_descriptor")) (ho : PE X o to) (he : PE X e te)
    (hbase : attributeBase o "index" X.env (eval o X.env) = eval o X.env) (hfew : ((backTo pos (starEach [e] X.env)).all (fun x => !x.1) && (backToKw pos (keywordEach [] X.env)).all (fun x => x.1.isSome)
      && decide ([e].length + ([] : List Keyword).length + (if ([] : List Keyword).isEmpty then 0 else 1) < 30)) = true)
    (hline : (ap.endLine == pos.line) = true) (hs : starEach [e] X.env = (false, eval e X.env) :: starEach [] X.env) (hplain : (backTo pos (starEach [] X.env)).any (·.1) = false) :
    PE X (.Call (.Attribute o "index" ap) [e] [] pos) (tIdxT X.K to te) := by
  refine ⟨fun pins s σ H Q I h => ?_⟩
  refine wpAny_Call_method_late hbase hfew hline rfl (thn (ho.run pins s σ H _ I h) fun v s1 ⟨x, H1, I1, r1, ⟨a, o, vs, ex, hq, hd⟩, q1⟩ => ?_)
  subst ex
  cases r1
  obtain ⟨hob, z, its, rv, ⟨o', ho', hc, n, hdt⟩⟩ := I1.hok a _ hq
  rw [hob] at ho'
  cases ho'
  refine ⟨"tuple", "tuple.index", hpa, slot_ti, hty, ⟨o, hob, hc⟩, fun b eb => ?_, ?_⟩
  · cases eb
    exact ⟨o, hob, hd⟩
  have hA := (pa_cons he pa_nil hs).run pos pins s1 σ H1 _ I1 q1
  rw [hs] at hA ⊢
  refine Calls.callWith_builtin (by show (false || (backTo pos (starEach [] X.env)).any (·.1)) = false; rw [hplain] <;> rfl) (Calls.evalArgs_plain ?_)
  exact thn hA fun us s2 ⟨vs, H2, I2, r2, q2⟩ => mt_indexT hu pins s2 σ H2 (V.ref a) vs (.ref a) us Q I2 rfl r2 q2
def gIdxT : EV → EV → Store → Res EV := fun x y S => match x, y with
  | .d (.tuple ds), .d d => if SeqAt.shaped (.tuple ds) = true ∧ SeqAt.shaped d = true then match idxOf d ds 0 with
    | some j => .ok (.d (.int (j : Nat))) S
    | none => .bad else .bad
  | _, _ => .bad
def idxF (fo f : EF) : EF := fun ρ S => (fo ρ S).bind fun x S1 => match x with
  | .d (.tuple ds) => (f ρ S1).bind fun y S2 => gIdxT (.d (.tuple ds)) y S2
  | _ => .bad
theorem de_idxT (F : Fam X K N) {o : Expr} {fo : EF} {ap : Pos} (ho : DE X K T W o fo) (he : DE X K T W e f)
    (hbase : ∀ i, attributeBase o "index" (X i).env (eval o (X i).env) = eval o (X i).env := by intro _; rfl)
    (hfew : ∀ i, ((backTo pos (starEach [e] (X i).env)).all (fun x => !x.1) && (backToKw pos (keywordEach [] (X i).env)).all (fun x => x.1.isSome)
      && decide ([e].length + ([] : List Keyword).length + (if ([] : List Keyword).isEmpty then 0 else 1) < 30)) = true := by intro _; rfl)
    (hline : (ap.endLine == pos.line) = true := by rfl) (hs : ∀ i, starEach [e] (X i).env = (false, eval e (X i).env) :: starEach [] (X i).env := by intro _; rfl) (hplain : ∀ i, (backTo pos (starEach [] (X i).env)).any (·.1) = false := by intro _; rfl) :
    DE X K T W (.Call (.Attribute o "index" ap) [e] [] pos) (idxF fo f) := by
  obtain ⟨to, po, hO⟩ := ho.ex
  obtain ⟨t, pt, ht⟩ := he.ex
  refine ⟨tIdxT K to t, fun i => by have := pe_idxT (F.hu i) PySem.F.plainAttrs_tuple PySem.F.type_tuple_index (po i) (pt i) (hbase i) (hfew i) hline (hs i) (hplain i); rw [F.K i] at this; exact this, fun P ρ S H m σ Q w er h => ?_⟩
  refine hO P ρ S H m σ _ w er (Post.step h fun S1 H1 m1 v x t1 w1 r1 h1 => ?_)
  split at h1
  · rename_i ds
    cases r1 with
    | tup g dn nn q =>
      refine ⟨⟨_, _, _, rfl, g, dn⟩, ht P ρ S1 H1 m1 σ _ w1 (er.to t1) (Post.step h1 fun S2 H2 m2 u y t2 w2 r2 h2 => ?_)⟩
      have r1' : Dq H2 (LP P S2 m2) _ (.tuple ds) := t2.dq (Dq.tup g dn nn q)
      show rIndexT K _ [u] H2 Q
      unfold gIdxT at h2
      split at h2
      · rename_i ds' d e1
        cases e1
        split at h2
        · rename_i hsd
          split at h2
          · rename_i j ej
            obtain ⟨i, z, e2, e3, e4, e5⟩ := idxOf_some ej
            have e2' : j = i := by omega
            subst e2'
            cases r1' with
            | tup g' dn' nn' q' =>
              exact ⟨_, _, _, u, d, ds, j, z, rfl, rfl, g', dn', DqAll.dpA q' (SeqAt.canLay_of_shaped hsd.1), Dq.dp r2 (SeqAt.canLay_of_shaped hsd.2), hsd.1, hsd.2, e3, e4, e5, Post.done (Rel := RelE K P) w2 h2 (Dq.int _)⟩
          · exact h2.elim
        · exact h2.elim
      · exact h2.elim
  · exact h1.elim

/-! ### dict comprehensions -/
/-- a key put among the others -/
def kput (kvs : List (Key × PyData)) (k : Key) (d : PyData) : List (Key × PyData) :=
  if (kvs.any fun kv => decide (kv.1 = k)) = true then kvs.map (fun kv => if kv.1 = k then (kv.1, d) else kv) else kvs ++ [(k, d)]
def kvD (kvs : List (Key × PyData)) : List (PyData × PyData) := kvs.map fun p => (keyD p.1, p.2)
def DqK (H : Hp) (L : Addr → Prop) : List (Key × V) → List (Key × PyData) → Prop := Paired fun p q => p.1 = q.1 ∧ Dq H L p.2 q.2
theorem DqK.kv {L : Addr → Prop} : ∀ {vs : List (Key × V)} {kvs : List (Key × PyData)}, DqK H L vs kvs → DqKV H L vs (kvD kvs)
  | [], [], .nil => .nil
  | (k, v) :: vs, (k', d) :: kvs, .cons h t => by
    obtain ⟨e, r⟩ := h
    simp only at e r
    subst e
    exact .cons r (DqK.kv t)
theorem DqK.any_ {L : Addr → Prop} {k : Key} : ∀ {vs : List (Key × V)} {kvs : List (Key × PyData)}, DqK H L vs kvs → (vs.any fun kv => decide (kv.1 = k)) = (kvs.any fun kv => decide (kv.1 = k))
  | [], [], .nil => rfl
  | (k1, v) :: vs, (k2, d) :: kvs, .cons h t => by
    have e : k1 = k2 := h.1
    subst e
    simp only [List.any_cons, DqK.any_ t]
theorem DqK.map_ {L : Addr → Prop} {k : Key} {v : V} {d : PyData} (r : Dq H L v d) : ∀ {vs : List (Key × V)} {kvs : List (Key × PyData)}, DqK H L vs kvs → DqK H L (vs.map fun kv => if kv.1 = k then (kv.1, v) else kv) (kvs.map fun kv => if kv.1 = k then (kv.1, d) else kv)
  | [], [], .nil => .nil
  | (k1, v1) :: vs, (k2, d1) :: kvs, .cons h t => by
    obtain ⟨e, q⟩ := h
    simp only at e q
    subst e
    refine .cons ?_ (DqK.map_ r t)
    by_cases z : k1 = k
    · simp only [z, if_true]; exact ⟨trivial, r⟩
    · simp only [z, if_false]; exact ⟨trivial, q⟩
theorem DqK.app_ {L : Addr → Prop} {k : Key} {v : V} {d : PyData} (r : Dq H L v d) : ∀ {vs : List (Key × V)} {kvs : List (Key × PyData)}, DqK H L vs kvs → DqK H L (vs ++ [(k, v)]) (kvs ++ [(k, d)])
  | [], [], .nil => .cons ⟨rfl, r⟩ .nil
  | _ :: _, _ :: _, .cons h t => .cons h (DqK.app_ r t)
theorem DqK.put {L : Addr → Prop} {k : Key} {v : V} {d : PyData} (r : Dq H L v d) {vs : List (Key × V)} {kvs : List (Key × PyData)} (h : DqK H L vs kvs) : DqK H L (putK vs k v) (kput kvs k d) := by
  unfold putK kput
  rw [h.any_]
  split
  · exact h.map_ r
  · exact h.app_ r
theorem DqK.keep' {L L' : Addr → Prop} {H' : Hp} (k : ∀ {v : V} {d : PyData}, Dq H L v d → Dq H' L' v d) {vs : List (Key × V)} {kvs : List (Key × PyData)} (h : DqK H L vs kvs) : DqK H' L' vs kvs := Paired.mapP h fun _ _ q => ⟨q.1, k q.2⟩
def dcL (g : GF) (t : BF) (kf vf : EF) (ρ : Rho) : List Itm → List (Key × PyData) → Store → Res (List (Key × PyData))
  | [], acc, S => .ok acc S
  | it :: r, acc, S => match g it ρ with
    | none => .bad
    | some ρ1 => (t ρ1 S).bindN fun b S1 => if b = true then (kf ρ1 S1).bindN fun y S2 => (vf ρ1 S2).bindN fun z S3 => match y, z with
        | .d yk, .d zd => match keyOf yk with
          | some k => if acc.length < sizeLine then dcL g t kf vf ρ r (kput acc k zd) S3 else .bad
          | none => .bad
        | _, _ => .bad
      else dcL g t kf vf ρ r acc S1
def mkDct (kvs : List (Key × PyData)) (S : Store) : Res EV := .ok (.d (.dict (kvD kvs))) S
def dcF (f : IF) (g : GF) (t : BF) (kf vf : EF) (vs : List Nat) : EF := fun ρ S => (f ρ S).bind fun its S1 => (dcL g t kf vf (wipeR ρ vs) its [] S1).bindN mkDct
theorem dc_run {P : Addr → Prop} {ρ : Rho} {S : Store} {H : Hp} {m : Nat → Addr} {σ : L2.St} {Q : VK} {f : IF} {tf : BF} {kf vf : EF} {vs : List Nat} {wi : TI} {u : TG} {tt : TT} {tk te : TE}
    (hws : ∀ j ∈ ws, j ∈ vs)
    (hI : ∀ P ρ S H m σ R, Wd K P S H m T → EnvR K P S H m ρ σ → Post K T P (RelW K T P) S H m σ W (f ρ S) R → wi σ H R)
    (hu : ∀ P ρ ρ' S H m σ v it (Q : L2.St → Hp → Prop), Wd K P S H m T → EnvR K P S H m ρ σ → RpI K P S H m v it → g it ρ = some ρ' → (∀ σ', EnvR K P S H m ρ' σ' → Same ws σ σ' → Q σ' H) → u v σ H Q)
    (hT : ∀ P ρ S H m σ Q, Wd K P S H m T → EnvR K P S H m ρ σ → Post K T P RelB S H m σ Wn (tf ρ S) Q → tt σ H Q)
    (hK : ∀ P ρ S H m σ Q, Wd K P S H m T → EnvR K P S H m ρ σ → Post K T P (RelE K P) S H m σ Wn (kf ρ S) Q → tk σ H Q)
    (hE : ∀ P ρ S H m σ Q, Wd K P S H m T → EnvR K P S H m ρ σ → Post K T P (RelE K P) S H m σ Wn (vf ρ S) Q → te σ H Q)
    (w : Wd K P S H m T) (er : EnvR K P S H m ρ σ) (h : Post K T P (RelE K P) S H m σ W (dcF f g tf kf vf vs ρ S) Q) : tDc wi u tt tk te vs σ H Q := by
  refine hI P ρ S H m σ _ w er (Post.step h fun S1 H1 m1 J its t1 w1 r1 h1 => ?_)
  have er1 := er.to t1
  intro D hD
  have hnD : ¬ P D := fun z => (w1.prv D z).1 hD
  have w2 : Wd K (Plus P D) S1 (upd H1 D (.dK [])) m1 T := w1.priv hD
  have e2 : EnvR K (Plus P D) S1 (upd H1 D (.dK [])) m1 (wipeR ρ vs) (L2.wipe σ vs) := EnvR.upP (EnvR.prv (plus_ok hD) (er1.wipe vs))
  let Inv := fun (i : Nat) (H' : Hp) => ∃ S' m' accV acc, To P S1 H1 m1 S' H' m' ∧ Wd K (Plus P D) S' H' m' T ∧ EnvR K (Plus P D) S' H' m' (wipeR ρ vs) (L2.wipe σ vs) ∧ H' D = some (.dK accV) ∧ DqK H' (LP (Plus P D) S' m') accV acc ∧
    Post K T P (RelE K P) S1 H1 m1 σ W ((dcL g tf kf vf (wipeR ρ vs) (its.drop i) acc S').bindN mkDct) Q
  refine ⟨fun i k H' => k = its.length - i ∧ i ≤ its.length ∧ Inv i H', ⟨_, rfl, Nat.zero_le _, S1, m1, [], [], To.priv To.refl hD, w2, e2, upd_same, .nil, ?_⟩, ?_⟩
  · simpa using h1
  rintro i k H2 ⟨rfl, hi, S2, m2, accV, acc, t2, w2, e2, d2, ra, h2⟩
  obtain ⟨stop, go⟩ := r1 (Plus P D) S2 H2 m2 i (plus_ok hD) t2 w2
  by_cases hl : i < its.length
  · refine .inr ?_
    obtain ⟨g1, g2⟩ := go its[i] (List.getElem?_eq_getElem hl)
    rw [List.drop_eq_getElem_cons hl] at h2
    unfold dcL at h2
    cases q : g its[i] (wipeR ρ vs) with
    | none => simp only [q] at h2; exact h2.elim
    | some ρ3 =>
      simp only [q] at h2
      refine ⟨g1, Inv (i + 1), fun H' z => ⟨_, by omega, rfl, hl, z⟩, fun x H3 y3 => ?_⟩
      obtain ⟨t3, w3, r3⟩ := g2 x H3 y3
      have e3 := e2.to t3
      refine hu (Plus P D) (wipeR ρ vs) ρ3 S2 H3 m2 _ x its[i] _ w3 e3 r3 q fun σ4 e4 s4 => ⟨?_, ?_⟩
      · rw [s4.wipe hws]
        apply List.ext_getElem?
        intro j
        rw [wipe_get, wipe_get, L2.wipe_length]
        by_cases z : j ∈ vs ∧ j < σ.length
        · rw [if_pos z, if_pos z]
        · rw [if_neg z, if_neg z]
      have kD : ∀ {S' : Store} {H' : Hp} {m' : Nat → Addr}, To (Plus P D) S2 H3 m2 S' H' m' → H3 D = some (.dK accV) → H' D = some (.dK accV) := fun t e => t.keep D _ e (w3.prv D (.inr rfl)).2 fun ps z => by cases z
      have d3 : H3 D = some (.dK accV) := t3.keep D _ d2 (w2.prv D (.inr rfl)).2 fun ps z => by cases z
      have ra3 := DqK.keep' (fun h => t3.dq h) ra
      refine hT (Plus P D) ρ3 S2 H3 m2 σ4 _ w3 e4 ?_
      cases qt : tf ρ3 S2 with
      | bad => rw [qt] at h2; exact h2
      | exc _ _ => rw [qt] at h2; exact h2.elim
      | ok b S5 =>
        rw [qt] at h2
        simp only [Res.bindN] at h2
        intro H5 m5 b' t5 w5 eb
        obtain rfl : b' = b := eb
        have t25 := t2.trans (To.prv (t3.trans t5))
        cases b' with
        | false =>
          simp only [Bool.false_eq_true, if_false] at h2 ⊢
          exact ⟨S5, m5, accV, acc, t25, w5, (e2.to t3).to t5, kD t5 d3, DqK.keep' (fun h => t5.dq h) ra3, h2⟩
        | true =>
          simp only [if_true] at h2 ⊢
          refine hK (Plus P D) ρ3 S5 H5 m5 σ4 _ w5 (e4.to t5) ?_
          cases qk : kf ρ3 S5 with
          | bad => rw [qk] at h2; exact h2
          | exc _ _ => rw [qk] at h2; exact h2.elim
          | ok y S6 =>
            rw [qk] at h2
            simp only at h2
            intro H6 m6 yv t6 w6 ry
            refine hE (Plus P D) ρ3 S6 H6 m6 σ4 _ w6 ((e4.to t5).to t6) ?_
            cases qe : vf ρ3 S6 with
            | bad => rw [qe] at h2; exact h2
            | exc _ _ => rw [qe] at h2; exact h2.elim
            | ok z S7 =>
              rw [qe] at h2
              simp only at h2
              intro H7 m7 zv t7 w7 rz
              cases y with
              | own _ => exact h2.elim
              | scr _ => exact h2.elim
              | d yk =>
                cases z with
                | own _ => exact h2.elim
                | scr _ => exact h2.elim
                | d zd =>
                  simp only at h2
                  cases ek : keyOf yk with
                  | none => simp only [ek] at h2; exact h2.elim
                  | some kk =>
                    simp only [ek] at h2
                    by_cases hz : acc.length < sizeLine
                    · rw [if_pos hz] at h2
                      have d7 := kD ((t5.trans t6).trans t7) d3
                      have ra7 := DqK.keep' (fun h => t7.dq (t6.dq (t5.dq h))) ra3
                      have ey := keyOf_kV ek ry
                      subst ey
                      have hlen : accV.length = acc.length := Paired.length ra
                      have rp := DqK.put (k := kk) rz ra7
                      exact ⟨accV, kk, rfl, d7, by rw [hlen]; exact hz, S7, m7, putK accV kk zv, kput acc kk zd, To.priv (t25.trans (To.prv (t6.trans t7))) hD, w7.upP (fun ps z => by rw [d7] at z; cases z), EnvR.upP ((((e2.to t3).to t5).to t6).to t7), upd_same, DqK.keep' (fun h => h.upP) rp, h2⟩
                    · rw [if_neg hz] at h2
                      exact h2.elim
  · refine .inl ⟨stop (by omega), ?_⟩
    rw [List.drop_eq_nil_of_le (by omega)] at h2
    simp only [dcL, Res.bindN, mkDct] at h2
    refine h2 H2 m2 (.ref D) t2 w2.endP (.dct d2 (fun z => z.elim hnD (w2.prv D (.inr rfl)).2) ?_)
    exact (DqK.keep' (fun h => Dq.prv (fun a z => .inl (.inl z)) h) ra).kv
theorem de_dc (F : Fam X K N) {kx vx iter : Expr} {ifs : List Expr} {scope : Scope} {f : IF} {tf : BF} {kf vf : EF} (own : List (Str × Nat)) (hi : DI X K T W tg iter f) (hg : DG (blkX X scope) K T tg ws g) (ht : DTs (blkX X scope) K T Wn ifs tf) (hk : DE (blkX X scope) K T Wn kx kf) (he : DE (blkX X scope) K T Wn vx vf)
    (ok : ∀ i, BlkOk N (X i).env.scope scope own) (hws : ∀ j ∈ ws, j ∈ own.map (·.2) := by decide) (hs : ∀ i x, foldedSetIterable iter (X i).env x = pure x := by intro _ _; rfl) :
    DE X K T W (.DictComp kx vx [⟨tg, iter, ifs, 0⟩] scope pos) (dcF f g tf kf vf (own.map (·.2))) := by
  obtain ⟨wi, pi, hI⟩ := hi.ex
  obtain ⟨u, pu, hu⟩ := hg.ex
  obtain ⟨tt, ptt, hT⟩ := ht.ex
  obtain ⟨tk, ptk, hK⟩ := hk.ex
  obtain ⟨te, pte, hE⟩ := he.ex
  exact ⟨tDc wi u tt tk te (own.map (·.2)), fun i => pe_dc (F.calm i) (by rw [F.N i]; exact F.nd) (pi i) (by rw [F.N i]; exact ok i) (fun s H C cl fp => pu (i, s, H, C, cl, fp)) (fun s H C cl fp => ptt (i, s, H, C, cl, fp)) (fun s H C cl fp => ptk (i, s, H, C, cl, fp)) (fun s H C cl fp => pte (i, s, H, C, cl, fp)) (hs i),
    fun P ρ S H m σ Q w er h => dc_run hws hI hu hT hK hE w er h⟩
end
end Z
set_option maxRecDepth 100000
set_option maxHeartbeats 4000000
/-! Z15: defs and their calls by one word; the law's end. -/
namespace Z
open PySem PySem.Spec PyProof.Rows L2

/-! ### a def that stands behind the top, its code object at c -/
structure FunC (K : PySem.W.Frag) (x qual : Str) (st : Stmt) (f : Addr) (fd : FuncData) (c : Addr) : Prop where
  ex : ∃ (oc : Value) (od : Option Addr) (kV doc pm : Value) (an : Option Addr) (ct : Value) (osl : Array (Option Value)),
    fd = PySem.W.fnOf x qual (defArgs st) (defBody st) (defScope st) .none kV doc pm an (.ref c) ct ∧ K.lookup f = some ⟨oc, od, .func fd, osl⟩ ∧ PySem.W.codeIn K (.ref c) qual = true
  kp : PySem.W.keepIn K (.ref f) = true
theorem funC_mk {K : PySem.W.Frag} {x qual : Str} {st : Stmt} {f c : Addr} {oc : Value} {od an : Option Addr} {osl : Array (Option Value)} {kV doc pm ct : Value} (l : K.lookup f = some ⟨oc, od, .func (PySem.W.fnOf x qual (defArgs st) (defBody st) (defScope st) .none kV doc pm an (.ref c) ct), osl⟩)
    (cc : PySem.W.codeIn K (.ref c) qual = true) (k : PySem.W.keepIn K (.ref f) = true) : FunC K x qual st f (PySem.W.fnOf x qual (defArgs st) (defBody st) (defScope st) .none kV doc pm an (.ref c) ct) c := ⟨⟨oc, od, kV, doc, pm, an, ct, osl, rfl, l, cc⟩, k⟩
section
variable {P : Program} {w : World} {K : PySem.W.Frag} {mg : Str → Option Value} {base : Heap} {T : List Addr}
theorem FunC.binds {x qual : Str} {st : Stmt} {f c : Addr} {fd : FuncData} {ps : List Str} (F : FunC K x qual st f fd c)
    (h : ∀ (kV doc pm : Value) (an : Option Addr) (cdv ct : Value) (us : List Value), us.length = ps.length → bindArgs (PySem.W.fnOf x qual (defArgs st) (defBody st) (defScope st) .none kV doc pm an cdv ct) ⟨us, []⟩ = pure (ps.zip us)) : Binds K fd ps [] := by
  obtain ⟨oc, od, kV, doc, pm, an, ct, osl, rfl, lk, hcd⟩ := F.ex
  exact .all (h kV doc pm an (.ref c) ct)
/-- how a call by keywords alone binds -/
theorem FunC.kbn {x qual : Str} {st : Stmt} {f c : Addr} {fd : FuncData} {ps ks : List Str} (ix : List Nat) (F : FunC K x qual st f fd c)
    (h : ∀ (kV doc pm : Value) (an : Option Addr) (cdv ct : Value) (ws : List Value), ws.length = ks.length → bindArgs (PySem.W.fnOf x qual (defArgs st) (defBody st) (defScope st) .none kV doc pm an cdv ct) ⟨[], ks.zip ws⟩ = pure (ps.zip (perm ix ws))) :
    KBn K fd ps 0 ks (fun us ws => perm ix (us ++ ws)) (fun us ws => perm ix (us ++ ws)) := by
  obtain ⟨oc, od, kV, doc, pm, an, ct, osl, rfl, lk, hcd⟩ := F.ex
  refine ⟨fun s us ws _ h1 h2 => ?_, fun r1 r2 => perm_vals (r1.append r2)⟩
  have e : us = [] := List.length_eq_zero_iff.mp h1
  subst e
  exact .of_eq (h kV doc pm an (.ref c) ct ws h2)
/-- the context of its body -/
abbrev bodyX (P : Program) (w : World) (K : PySem.W.Frag) (mg : Str → Option Value) (base : Heap) (N : List Str) (qual : Str) (st : Stmt) (f c : Addr) (A : Around) (outer : List Env) (s : Shared) (H : Hp) (E : XK) : Unit → Cx :=
  fun _ => cxOf (L2.CX P w) P w K mg base N qual (defScope st) f (.ref c) A outer s H E
theorem bodyX_fam {N : List Str} {qual : Str} {st : Stmt} {f c : Addr} {A : Around} {outer : List Env} {s : Shared} {H : Hp} {E : XK} {k : Nat} (hr : Room k (A.deeper (envOfC qual (defScope st) s.heap.objs.size f (.ref c)))) (nd : N.Nodup) :
    Fam (bodyX P w K mg base N qual st f c A outer s H E) K N :=
  ⟨fun _ => rfl, fun _ => rfl, fun _ => by have := hr.un; show (A.deeper (envOfC qual (defScope st) s.heap.objs.size f (.ref c))).units + 65 < cLine; omega, nd, fun _ => rfl⟩
abbrev WE0 (E : XK) : WX := fun c d _ H => E c d H
theorem bodyX_takes {N : List Str} {qual : Str} {st : Stmt} {f c : Addr} {A : Around} {outer : List Env} {s : Shared} {H : Hp} {E : XK} : ∀ i, Takes (bodyX P w K mg base N qual st f c A outer s H E i) (WE0 E) := fun _ => takes_of rfl rfl rfl rfl
theorem bodyX_passes {N : List Str} {qual : Str} {st : Stmt} {f c : Addr} {A : Around} {outer : List Env} {s : Shared} {H : Hp} {E : XK} (i : Unit) : PassesOwn (model (bodyX P w K mg base N qual st f c A outer s H E i).prog (bodyX P w K mg base N qual st f c A outer s H E i).w) (bodyX P w K mg base N qual st f c A outer s H E i).A (bodyX P w K mg base N qual st f c A outer s H E i).env (bodyX P w K mg base N qual st f c A outer s H E i).xe :=
  passes_of (X := cxOf (L2.CX P w) P w K mg base N qual (defScope st) f (.ref c) A outer s H E) rfl
/-- THE RULE of a def -/
theorem fn_C {x qual : Str} {st : Stmt} {f c : Addr} {fd : FuncData} {N ps : List Str} {k : Nat} {sf : SF} (F : FunC K x qual st f fd c) (S : FnScope N ps (defScope st))
    (hbody : ∀ (A : Around) (outer : List Env) (s : Shared) (H : Hp) (E : XK), Room k (A.deeper (envOfC qual (defScope st) s.heap.objs.size f (.ref c))) →
      DSs (bodyX P w K mg base N qual st f c A outer s H E) K T (WE0 E) (defBody st) sf) :
    FnOk P w K mg base (L2.CX P w) (k + 1) f fd ps (spG K T ps.length (runF N sf)) := by
  obtain ⟨oc, od, kV, doc, pm, an, ct, osl, rfl, lk, hcd⟩ := F.ex
  refine fn_of lk hcd S (fun vs H Q E h => h.1) fun A outer s H vs Q E hr hs => ?_
  obtain ⟨t, pt, ht⟩ := (hbody A outer s H E hr).ex
  obtain ⟨_, P', S', m, xs, w, r, p⟩ := hs
  refine ⟨t, pt (), ht P' (startR N xs) S' H m _ _ w (envR_start r) ?_⟩
  unfold runF at p
  cases q : sf (startR N xs) S' with
  | bad => rw [q] at p; exact p.elim
  | nx ρ S2 => rw [q] at p; exact fun H' m' σ' t w e => p H' m' .non t w Dq.non
  | ret x S2 => rw [q] at p; exact fun H' m' v t w e => p H' m' v t w e
  | brk ρ S2 => rw [q] at p; exact p.elim
  | cont ρ S2 => rw [q] at p; exact p.elim
  | exc e ρ S2 => rw [q] at p; exact fun H' m' c d σ' t w er ex => p H' m' c d t w ex
/-- a def that is called: what a call of it needs -/
structure Callee (P : Program) (w : World) (K : PySem.W.Frag) (mg : Str → Option Value) (base : Heap) (T : List Addr) (x : Str) (k : Nat) (ps : List Str) (G : GFn) : Prop where
  ex : ∃ f fd, FnOk P w K mg base (L2.CX P w) k f fd ps (spG K T ps.length G) ∧ mg x = some (.ref f) ∧ PySem.W.keepIn K (.ref f) = true ∧ Binds K fd ps []
/-- .. by keywords ks -/
structure CalleeK (P : Program) (w : World) (K : PySem.W.Frag) (mg : Str → Option Value) (base : Heap) (T : List Addr) (x : Str) (k : Nat) (ps ks : List Str) (ix : List Nat) (G : GFn) : Prop where
  ex : ∃ f fd, FnOk P w K mg base (L2.CX P w) k f fd ps (spG K T ps.length G) ∧ mg x = some (.ref f) ∧ PySem.W.keepIn K (.ref f) = true ∧ KBn K fd ps 0 ks (fun us ws => perm ix (us ++ ws)) (fun us ws => perm ix (us ++ ws))
theorem Callee.imp {x : Str} {k : Nat} {ps : List Str} {G G' : GFn} (c : Callee P w K mg base T x k ps G) (h : ∀ xs S, G' xs S ≠ .bad → G xs S = G' xs S) : Callee P w K mg base T x k ps G' := by
  obtain ⟨f, fd, h1, r⟩ := c.ex
  exact ⟨f, fd, h1.imp fun vs H Q E q => spG.imp h q, r⟩
theorem CalleeK.imp {x : Str} {k : Nat} {ps ks : List Str} {ix : List Nat} {G G' : GFn} (c : CalleeK P w K mg base T x k ps ks ix G) (h : ∀ xs S, G' xs S ≠ .bad → G xs S = G' xs S) : CalleeK P w K mg base T x k ps ks ix G' := by
  obtain ⟨f, fd, h1, r⟩ := c.ex
  exact ⟨f, fd, h1.imp fun vs H Q E q => spG.imp h q, r⟩
/-- a def of which nothing is promised -/
theorem fn_bad {f : Addr} {fd : FuncData} {ps : List Str} (k : Nat) : FnOk P w K mg base (L2.CX P w) k f fd ps (spG K T ps.length fun _ _ => .bad) :=
  ⟨fun _ _ _ _ h => h.1, fun A outer s H args us vs Q E _ _ _ _ h => by obtain ⟨_, _, _, _, _, _, _, z⟩ := h; exact z.elim⟩
end
section
variable {ι : Type} {X : ι → Cx} {K : PySem.W.Frag} {T : List Addr} {W : WX} {N : List Str} {P : Program} {w : World} {mg : Str → Option Value} {base : Heap}
variable {e : Expr} {es : List Expr} {f : EF} {fs : AF} {pos p : Pos}
/-- where a family of contexts stands -/
structure At (X : ι → Cx) (P : Program) (w : World) (mg : Str → Option Value) (base : Heap) (k : Nat) (W : WX) : Prop where
  prog : ∀ i, (X i).prog = P
  w : ∀ i, (X i).w = w
  mg : ∀ i, (X i).mg = mg
  base : ∀ i, (X i).base = base
  room : ∀ i, Room k (X i).A
  tk : ∀ i, Takes (X i) W
theorem At.blk {k : Nat} (a : At X P w mg base k W) (scope : Scope) : At (blkX X scope) P w mg base k Wn := ⟨fun j => a.prog j.1, fun j => a.w j.1, fun j => a.mg j.1, fun j => a.base j.1, fun j => a.room j.1, fun _ => takes0⟩
theorem At.gex {k : Nat} (a : At X P w mg base k W) (scope : Scope) (j : Nat) : At (gexX X scope j) P w mg base j Wn := ⟨fun j => a.prog j.1, fun j => a.w j.1, fun j => a.mg j.1, fun j => a.base j.1, fun j => j.2.room, fun _ => takes0⟩
theorem At.none {k : Nat} (a : At X P w mg base k W) {x : Str} (h : mg x = none) : ∀ i, (X i).mg x = none := fun i => by rw [a.mg i]; exact h
theorem de_callC {k j : Nat} {x : Str} {ps : List Str} {G : GFn} (F : Fam X K N) (at_ : At X P w mg base k W) (c : Callee P w K mg base T x j ps G) (hj : j ≤ k) (ha : DA X K T W (e :: es) fs) (hg : ∀ i, Gl (X i) x := by intro _; rfl)
    (hdb : (x == ("__debug__" : Str)) = false := by decide) (he : ∀ i, starEach (e :: es) (X i).env = (false, eval e (X i).env) :: starEach es (X i).env := by intro _; rfl) (hpl : ∀ i, (backTo pos (starEach es (X i).env)).any (·.1) = false := by intro _; rfl) :
    DE X K T W (.Call (.Name x p) (e :: es) [] pos) (callG ps.length G fs) := by
  obtain ⟨fa, fd, h1, h2, h3, h4⟩ := c.ex
  refine de_call (fun i => ?_) (fun i => (at_.room i).mono hj) (fun i => by rw [at_.mg i]; exact h2) (fun i => by rw [F.K i]; exact h3) (fun i => by rw [F.K i]; exact h4) at_.tk ha hg hdb he hpl
  rw [at_.prog i, at_.w i, F.K i, at_.mg i, at_.base i]
  exact h1
theorem pe_callN0 {X : Cx} {CX : CXT} {k : Nat} {f : Addr} {fd : FuncData} {ps ks : List Str} {sp : Sp} {E : L2.St → XK} {x : Str} {p pos : Pos} {kws : List Keyword} {tk : TA} {g : List Value → List Value → List Value} {gV : List V → List V → List V}
    (F : FnOk X.prog X.w X.K X.mg X.base CX k f fd ps sp) (hr : Room k X.A) (hg : Gl X x) (hm : X.mg x = some (.ref f)) (hk : PySem.W.keepIn X.K (.ref f) = true) (hb : KBn X.K fd ps 0 ks g gV) (hx : ∀ σ, PassesAt CX X σ (E σ))
    (hkw : PK X kws tk) (hall : (backToKw pos (keywordEach kws X.env)).all (·.1.isSome) = true) (hks : (backToKw pos (keywordEach kws X.env)).filterMap (·.1) = ks)
    (hdb : (x == ("__debug__" : Str)) = false) (hpl : ((backTo pos (starEach [] X.env)).any (·.1) || (backToKw pos (keywordEach kws X.env)).any (·.1.isNone)) = false) :
    PE X (.Call (.Name x p) [] kws pos) (fun σ H Q => tk σ H fun zs H2 => zs.length = ks.length ∧ sp (gV [] zs) H2 Q (E σ)) := by
  refine ⟨fun pins s σ H Q I h => ?_⟩
  refine wpAny_Call_Name_kw (ld_glob I hg hm ?_ hdb)
  refine PySem.W.callWith_KW0 (h₀ := X.base) I.ok.mod.kin hk hall (thn (hkw.run pos pins s σ H _ I h) fun ws s2 ⟨zs, H2, I2, rz, hz, q2⟩ => ⟨I2.kIn, ?_⟩) hpl
  rw [hks]
  have r2 := hb.rel (vs := []) (us := []) .nil rz
  refine wpAny_call (codeAny_mono (F.run X.A X.stack s2 H2 ⟨[], ks.zip ws⟩ (g [] ws) (gV [] zs) Q (E σ) hr I2.env0 (hb.to s2 [] ws I2.kIn rfl (rz.length.symm.trans hz)) r2 q2) fun r s' hq => ?_)
  cases r with
  | error e => exact hx σ pins H2 s2 e s' I2 hq
  | ok fl =>
    cases fl with
    | ret u => exact I2.after hq
    | next => exact False.elim hq
    | brk => exact False.elim hq
    | cont => exact False.elim hq
def callKwF (m n : Nat) (ix : List Nat) (G : GFn) (fs : AF) : EF := fun ρ S => (fs ρ S).bind fun xs S1 => if xs.length = m ∧ (perm ix xs).length = n then G (perm ix xs) S1 else .bad
theorem de_callKC {k j : Nat} {x : Str} {ps ks : List Str} {ix : List Nat} {G : GFn} {kws : List Keyword} (F : Fam X K N) (at_ : At X P w mg base k W) (c : CalleeK P w K mg base T x j ps ks ix G) (hj : j ≤ k) (ha : DK X K T W kws fs) (hg : ∀ i, Gl (X i) x := by intro _; rfl)
    (hall : ∀ i, (backToKw pos (keywordEach kws (X i).env)).all (·.1.isSome) = true := by intro _; rfl) (hks : ∀ i, (backToKw pos (keywordEach kws (X i).env)).filterMap (·.1) = ks := by intro _; rfl)
    (hdb : (x == ("__debug__" : Str)) = false := by decide) (hpl : ∀ i, ((backTo pos (starEach [] (X i).env)).any (·.1) || (backToKw pos (keywordEach kws (X i).env)).any (·.1.isNone)) = false := by intro _; rfl) :
    DE X K T W (.Call (.Name x p) [] kws pos) (callKwF ks.length ps.length ix G fs) := by
  obtain ⟨fa, fd, h1, h2, h3, h4⟩ := c.ex
  obtain ⟨t, pt, ht⟩ := ha.ex
  refine ⟨fun σ H Q => t σ H fun zs H2 => zs.length = ks.length ∧ spG K T ps.length G (perm ix ([] ++ zs)) H2 Q (WE W σ), fun i => ?_, fun P ρ S H m σ Q w er h => ?_⟩
  · refine pe_callN0 (CX := L2.CX (X i).prog (X i).w) (E := WE W) (gV := fun us ws => perm ix (us ++ ws)) (g := fun us ws => perm ix (us ++ ws)) ?_ ((at_.room i).mono hj) (hg i) (by rw [at_.mg i]; exact h2) (by rw [F.K i]; exact h3) (by rw [F.K i]; exact h4) (fun σ => passAt (at_.tk i) σ) (pt i) (hall i) (hks i) hdb (hpl i)
    rw [at_.prog i, at_.w i, F.K i, at_.mg i, at_.base i]
    exact h1
  · refine ht P ρ S H m σ _ w er (Post.step h fun S1 H1 m1 vs xs t1 w1 r1 h1 => ?_)
    split at h1
    · rename_i hl
      refine ⟨by rw [RpL.length r1]; exact hl.1, ?_, P, S1, m1, perm ix xs, w1, ?_, Post.wx h1 fun c d H z => z⟩
      · rw [List.nil_append, (perm_rpl r1).length]; exact hl.2
      · rw [List.nil_append]; exact perm_rpl r1
    · exact h1.elim

/-! ### over a list or a tuple -/
def iSeq (K : PySem.W.Frag) (t : TE) : TI := fun σ H R => t σ H fun x H1 => ∃ a, x = .ref a ∧ (((∃ xs, SqL K H1 a xs) ∧ R (Itl K a) H1) ∨ ((∃ xs, SqT K H1 a xs) ∧ R (Itt K a) H1))
theorem pi_seq {X : Cx} {tg l : Expr} {tl : TE} (hl : PE X l tl) : PI X tg l (iSeq X.K tl) := by
  refine ⟨fun pins s σ H R I h => ?_⟩
  refine thn (hl.run pins s σ H _ I h) fun v s1 ⟨x, H1, I1, r1, a, e, q⟩ => ?_
  subst e
  cases r1
  rcases q with ⟨⟨xs, hq⟩, q⟩ | ⟨⟨xs, hq⟩, q⟩
  · obtain ⟨its, rv, p, hz⟩ := I1.list hq
    refine wpAny_pyIter_list p.isList ?_
    refine ⟨s1.heap.objs.size, [s1.heap.objs.size], _, _, H1, rfl, I1.kept (t' := s1.toks) fun b o e => Heap.get?_push_of_some _ e, turn_list a _, ⟨_, Heap.get?_push_size _ rfl, rfl, rfl⟩, fun b hb => ?_, q⟩
    have e : b = s1.heap.objs.size := by simpa using hb
    subst e
    exact I1.fpOk (Nat.le_refl _) (I1.hok.fresh (Nat.le_refl _))
  · obtain ⟨its, rv, p, hz⟩ := I1.tuple hq
    refine wpAny_pyIter_tuple (show s1.heap.IsTuple a its.toArray from p) ?_
    refine ⟨s1.heap.objs.size, [s1.heap.objs.size], _, _, H1, rfl, I1.kept (t' := s1.toks) fun b o e => Heap.get?_push_of_some _ e, turn_tuple a _, ⟨_, Heap.get?_push_size _ rfl, rfl, rfl⟩, fun b hb => ?_, q⟩
    have e : b = s1.heap.objs.size := by simpa using hb
    subst e
    exact I1.fpOk (Nat.le_refl _) (I1.hok.fresh (Nat.le_refl _))
def seqIF (f : EF) : IF := fun ρ S => (f ρ S).bind fun x S1 => match fixB x with
  | some ds => .ok ((evs ds).map .one) S1
  | none => .bad
theorem di_seq {tg : Expr} (F : Fam X K N) (he : DE X K T W e f) : DI X K T W tg e (seqIF f) := by
  obtain ⟨t, pt, ht⟩ := he.ex
  refine ⟨iSeq K t, fun i => by have := pi_seq (tg := tg) (pt i); rw [F.K i] at this; exact this, fun P ρ S H m σ R w er h => ?_⟩
  refine ht P ρ S H m σ _ w er (Post.step h fun S1 H1 m1 v x t1 w1 r1 h1 => ?_)
  cases q : fixL x with
  | some ds =>
    obtain ⟨a, rfl, hs, wk⟩ := walk_list (T := T) r1 q
    have q2 : fixB x = some ds := by
      cases x with
      | own _ => cases q
      | scr _ => exact q
      | d y => cases y <;> cases q <;> rfl
    simp only [q2] at h1
    exact ⟨a, rfl, .inl ⟨hs, Post.done (Rel := RelW K T P) w1 h1 wk⟩⟩
  | none =>
    cases x with
    | own _ => exact h1.elim
    | scr _ => cases q
    | d y =>
      cases y with
      | tuple ds =>
        obtain ⟨a, rfl, hs, wk⟩ := walk_tup (T := T) r1
        exact ⟨a, rfl, .inr ⟨hs, Post.done (Rel := RelW K T P) w1 h1 wk⟩⟩
      | list _ => cases q
      | none => exact h1.elim
      | bool _ => exact h1.elim
      | int _ => exact h1.elim
      | str _ => exact h1.elim
      | dict _ => exact h1.elim
end

/-! ### the law's end -/
/-- what is known of the law's promise, from the head's facts -/
def LawZ (l : PySem.W.OpenLaw) (w : World) (K : PySem.W.Frag) (k n : Nat) (x : Str) (mg : Str → Option Value) (fa : Addr) (h : Heap) : Prop :=
  ∃ (fd : FuncData) (cs : List (Addr × Addr)) (G : GFn), (∀ p ∈ cs, h.get? p.2 = some { cls := .none, data := .fields #[] }) ∧ (∀ p ∈ cs, K.lookup p.2 = none) ∧ (∀ p ∈ cs, PySem.W.CodeHd h p.1 p.2) ∧ (∀ (s : Shared) (u : Value), BindsTo s fd ⟨[u], []⟩ [(x, u)]) ∧
    (∀ ns : List Int, ns.length ≤ n → (∀ z ∈ ns, Builtin.Int.intBits z ≤ 1048576) → ∃ S', G [.scr (ns.map .int)] [] = .ok (.d (.bool true)) S') ∧
    ∀ base : Heap, K.In base → base.Ns mainGlobals mg → (∀ p ∈ cs, GxR.TabB base mg p.1 p.2) → FnOk l.prog w K mg base (L2.CX l.prog w) k fa fd [x] (spG K (cs.map (·.2)) 1 G)
theorem dq_ints {H : Hp} {L : Addr → Prop} : ∀ ns : List Int, DqAll H L (ns.map V.int) (ns.map .int)
  | [] => .nil
  | n :: ns => .cons (Dq.int n) (dq_ints ns)
theorem scr_rp {K : PySem.W.Frag} {H : Hp} {a : Addr} {ns : List Int} {m : Nat → Addr} (h : SqL K H a (ns.map V.int)) : Rp K (fun _ => False) [] H m (.ref a) (.scr (ns.map .int)) := by
  have nl : ∀ b, ¬ LP (fun _ => False) [] m b := fun b z => by
    rcases z with z | ⟨n, o, z, _⟩
    · exact z
    · simp at z
  exact ⟨a, _, rfl, h.imp (fun z => ⟨z, nl a⟩) id, dq_ints ns⟩
theorem law_sp {K : PySem.W.Frag} {cs : List (Addr × Addr)} {G : GFn} {H : Hp} {a : Addr} {ns : List Int} (hG : ∃ S', G [.scr (ns.map .int)] [] = .ok (.d (.bool true)) S') (hT : ∀ p ∈ cs, H p.2 = some (.tbl #[])) (h : SqL K H a (ns.map V.int)) :
    spG K (cs.map (·.2)) 1 G [.ref a] H (fun v _ => v = .bl true) fun _ _ _ => False := by
  obtain ⟨S', e⟩ := hG
  refine ⟨rfl, fun _ => False, [], fun _ => 0, [.scr (ns.map .int)], ⟨fun n o h => by simp at h, fun i j a b h => by simp at h, fun p hp => ?_, fun _ z => z.elim⟩, .cons (scr_rp h) .nil, ?_⟩
  · obtain ⟨q, hq, rfl⟩ := List.mem_map.mp hp
    exact ⟨#[], hT q hq, trivial⟩
  · rw [e]
    intro H' m' v _ _ r
    cases r
    rfl
theorem walkZ {l : PySem.W.OpenLaw} {n k : Nat} {q : Program} {loose : List Str} {XP : (Str → Option Value) → Heap → Prop} {YP : World → Heap → Prop} {d : DefRec} {K : Params → PySem.W.Frag} {x : Str}
    (hn : l.most = some n) (hn2 : n ≤ sizeLine) (hdf : d.params.defaults = []) (hr : Room k callerA) (hY : ∀ (w : World) (h : Heap), YP w h → (K w.params).In h)
    (F : ∀ (w : World) (mg mb : Str → Option Value) (mean : ExcName → Option Value) (fa : Addr) (h : Heap), YP w h → (K w.params).In h → h.Ns mainGlobals mg → mg d.name = some (.ref fa) → Top q (PySem.W.looseW q loose) mean mg mb h → LawZ l w (K w.params) k n x mg fa h) :
    PySem.W.WalkO q loose XP YP l.row.toRowW d [] (fun f vs => PySem.call f vs) := by
  refine Att.attach_callB hn hdf fun w s₀ s₁ mg mb fa o pm cd doc a vs ns G Y ho hd hcd hmg hobj hints hlen hbits hg => ?_
  have KX := hY w _ Y
  obtain ⟨fd, cs, GG, hT, nT, C, hb, hG, hF⟩ := F w mg mb _ fa _ Y KX G.T.g hmg G.T
  exact LamX.law_callTs (sp := spG (K w.params) (cs.map (·.2)) 1 GG) KX G.T.g G.T.b G.T.builtins G.T.nolimit hg hT nT C G.T.bmain hobj hints (Nat.le_trans hlen hn2) hr (fun base h1 h2 h3 => hF base h1 h2 fun p hp => ⟨(h3 p hp).code, (h3 p hp).bm, (h3 p hp).gP⟩) hb (fun H hH hS => law_sp (hG ns hlen hbits) hH hS)
    fun H e s' h => by obtain ⟨_, _, _, _, _, _, _, _, _, _, _, _, z⟩ := h; exact z
end Z
set_option maxRecDepth 100000
set_option maxHeartbeats 4000000
/-! Z16: sums of tuples. -/
namespace Z
open PySem PySem.Spec PyProof.Rows L2
theorem sum_rawT {prog : Program} {w : World} {A : Around} {E : Value → Shared → Prop} {s : Shared} {l : Addr} {its : List Value} {ns : List Int} {Q : Value → Shared → Prop} (hh : A.handled = none) (hl : s.heap.IsTuple l its.toArray) (hi : IntsAre its ns)
    (h : ∀ h' tk t', (∀ b o, s.heap.get? b = some o → h'.get? b = some o) → Q (.int ns.sum t') { s with heap := h', toks := tk }) : wpAny (model prog w) A (call (.builtin "sum") [.ref l]) Q E s := by
  obtain ⟨xs, e⟩ := hi.allInts.items
  have hn : numsOf (intItems xs).toList = ns := by rw [← e]; exact hi.numsOf
  rw [nums_intItems] at hn
  rw [e] at hl
  refine PySem.W.ktm_sumG hh hl fun h' tk t' hk => ?_
  have := h h' tk t' hk
  rw [preSum_eq, List.take_of_length_le (by simp), hn]; exact this
def rSumT (K : PySem.W.Frag) : List V → Hp → VK → Prop := fun vs H Q => ∃ (a : Addr) (ns : List Int), vs = [V.ref a] ∧ SqT K H a (ns.map V.int) ∧ Q (.int ns.sum) H
theorem cr_sumT {X : Cx} (hc : X.calm = true) : CallR X (.builtin "sum") (rSumT X.K) := by
  intro pins s σ H vs us Q I r h
  obtain ⟨a, ns, rfl, hs, q⟩ := h
  obtain ⟨its, rv, hl, _⟩ := I.tuple hs
  rw [Vals.ref1 r]
  exact sum_rawT (I.ok.hd hc) (show s.heap.IsTuple a its.toArray from hl) rv.ints fun h' tk t' hk => ⟨.int _, H, I.kept hk, ⟨_, rfl⟩, q⟩
section
variable {ι : Type} {X : ι → Cx} {K : PySem.W.Frag} {T : List Addr} {W : WX} {N : List Str}
def gSumT : List EV → Store → Res EV := fun xs S => match xs with
  | [x] => match itemsT x with
    | some ys => match intsOf ys with
      | some ns => .ok (.d (.int ns.sum)) S
      | none => .bad
    | none => .bad
  | _ => .bad
theorem cd_sumT (F : Fam X K N) : CallD X K T (.builtin "sum") gSumT := by
  refine ⟨rSumT K, fun i => by have := cr_sumT (X := X i) (F.calm i); rw [F.K i] at this; exact this, fun P S H m σ W xs vs Q w r h => ?_⟩
  unfold gSumT at h
  split at h
  · obtain ⟨v, rfl, rv⟩ := rpl_one r
    split at h
    · rename_i ys q
      split at h
      · rename_i ns q2
        obtain ⟨a, o, us, rfl, hs, _, rl⟩ := itemsT_H rv q
        have e := intsOf_rp q2 rl
        subst e
        exact ⟨a, ns, rfl, sqT_frz hs, Post.done (Rel := RelE K P) w h (Dq.int _)⟩
      · exact h.elim
    · exact h.elim
  · exact h.elim
def gSum : List EV → Store → Res EV := cOr gSumL gSumT
theorem cd_sum (F : Fam X K N) : CallD X K T (.builtin "sum") gSum := (cd_sumL F).or (cd_sumT F)
end
/-- a list display given to many -/
abbrev wn := Wn
end Z
set_option maxRecDepth 100000
set_option maxHeartbeats 4000000
/-! Z17: lists to be changed, made by repeating. -/
namespace Z
open PySem PySem.Spec PyProof.Rows L2
section
variable {ι : Type} {X : ι → Cx} {K : PySem.W.Frag} {T : List Addr} {W : WX} {N : List Str}
def gRepO : EV → EV → Store → Res EV := fun x y S => match itemsL S x, y with
  | some xs, .d (.int k) => if 0 ≤ k ∧ k ≤ 1000 ∧ xs.length ≤ 1000 then mkOwn (List.replicate k.toNat xs).flatten S else .bad
  | _, _ => .bad
theorem opd_repO : OpD X K T (binaryOp .Mult) gRepO := by
  refine ⟨rRep, fun i => op_rep, fun P S H m σ W x y v u Q w r1 r2 h => ?_⟩
  unfold gRepO at h
  split at h
  · rename_i xs k e1
    split at h
    · rename_i c
      obtain ⟨a1, v1, rfl, h1, q1⟩ := itemsL_H w r1 e1
      obtain rfl := rp_int r2
      obtain ⟨hl, hn⟩ := post_own w (rep_rpL q1 k.toNat) h
      have hle := q1.length
      refine ⟨a1, k, v1, rfl, rfl, h1, by omega, by omega, ?_, hn⟩
      rw [sizeLine_eq]
      have a2 : v1.length * k.toNat ≤ 1000 * 1000 := Nat.mul_le_mul (by omega) (by omega)
      omega
    · exact h.elim
  · exact h.elim
end
end Z
set_option maxRecDepth 100000
set_option maxHeartbeats 4000000
/-! Z18: how the plain functions of the parts are worked out. -/
namespace Z
open PySem PySem.Spec PyProof.Rows L2
section
variable {α β : Type} {ρ ρ1 : Rho} {S S1 : Store} {f f1 f2 fo fi : EF} {c c1 c2 : BF} {fs : AF} {sf sg sh : SF} {g : GF} {gs : GsF} {h : EV → EV → Store → Res EV} {G : GFn} {If : IF} {i j : Int} {n m : Nat} {x y : EV} {xs ys : List EV} {ds es : List PyData}
@[simp] theorem bind_ok (a : α) (k : α → Store → Res β) : (Res.ok a S).bind k = k a S := (rfl)
@[simp] theorem bindN_ok (a : α) (k : α → Store → Res β) : (Res.ok a S).bindN k = k a S := (rfl)
@[simp] theorem toS_ok (a : α) (k : α → Store → RS) : (Res.ok a S).toS ρ k = k a S := (rfl)
@[simp] theorem e_var : varF n ρ S = (match ρ[n]? with | some (some x) => .ok x S | _ => .bad) := (rfl)
@[simp] theorem e_k {d : PyData} : kF d ρ S = .ok (.d d) S := (rfl)
@[simp] theorem e_nil : nilF ρ S = .ok [] S := (rfl)
@[simp] theorem e_cons : consF f fs ρ S = (f ρ S).bind fun x S1 => (fs ρ S1).bind fun xs S2 => .ok (x :: xs) S2 := (rfl)
@[simp] theorem e_tup : tupF fs ρ S = (fs ρ S).bind mkTup := (rfl)
@[simp] theorem e_lst : lstF fs ρ S = (fs ρ S).bind mkLst := (rfl)
@[simp] theorem e_own : ownF fs ρ S = (fs ρ S).bind mkOwn := (rfl)
@[simp] theorem e_op : opF h f1 f2 ρ S = (f1 ρ S).bind fun x S1 => (f2 ρ S1).bind fun y S2 => h x y S2 := (rfl)
@[simp] theorem e_ix : ixF f1 f2 ρ S = (f1 ρ S).bind fun x S1 => (f2 ρ S1).bind fun y S2 => gIx x y S2 := (rfl)
@[simp] theorem e_tru : truF f ρ S = (f ρ S).bind truB := (rfl)
@[simp] theorem e_test : testF f ρ S = (f ρ S).bind asB := (rfl)
@[simp] theorem e_asB (b : Bool) : asB (.d (.bool b)) S = .ok b S := (rfl)
@[simp] theorem e_truB (b : Bool) : truB (.d (.bool b)) S = .ok b S := (rfl)
@[simp] theorem e_notB : notB c ρ S = (c ρ S).bind fun b S1 => .ok (!b) S1 := (rfl)
@[simp] theorem e_andB : andB c1 c2 ρ S = (c1 ρ S).bind fun b S1 => if b = true then c2 ρ S1 else .ok false S1 := (rfl)
@[simp] theorem e_orB : orB c1 c2 ρ S = (c1 ρ S).bind fun b S1 => if b = true then .ok true S1 else c2 ρ S1 := (rfl)
@[simp] theorem e_bol : bolF c ρ S = (c ρ S).bind fun b S1 => .ok (.d (.bool b)) S1 := (rfl)
@[simp] theorem e_and : andF f1 f2 ρ S = (f1 ρ S).bind fun x S1 => (asB x S1).bind fun b S2 => if b = true then f2 ρ S2 else .ok (.d (.bool false)) S2 := (rfl)
@[simp] theorem e_or : orF f1 f2 ρ S = (f1 ρ S).bind fun x S1 => (asB x S1).bind fun b S2 => if b = true then .ok (.d (.bool true)) S2 else f2 ρ S2 := (rfl)
@[simp] theorem e_not : notF f ρ S = (f ρ S).bind fun x S1 => match truth S1 x with
  | some b => .ok (.d (.bool (!b))) S1
  | none => .bad := (rfl)
@[simp] theorem e_truth (b : Bool) : truth S (.d (.bool b)) = some b := (rfl)
@[simp] theorem e_if : ifF c f1 f2 ρ S = (c ρ S).bind fun b S1 => if b = true then f1 ρ S1 else f2 ρ S1 := (rfl)
@[simp] theorem e_neg : negF f ρ S = (f ρ S).bind fun x S1 => match x with
  | .d (.int i) => .ok (.d (.int (-i))) S1
  | _ => .bad := (rfl)
@[simp] theorem e_no : noF ρ S = .ok none S := (rfl)
@[simp] theorem e_some : someF f ρ S = (f ρ S).bind fun x S1 => match x with
  | .d (.int i) => .ok (some i) S1
  | _ => .bad := (rfl)
@[simp] theorem e_sl {lo hi : Rho → Store → Res (Option Int)} : slF f lo hi ρ S = (f ρ S).bind fun x S1 => (lo ρ S1).bind fun l S2 => (hi ρ S2).bind fun u S3 => gSl x l u S3 := (rfl)
@[simp] theorem e_rev : revF f ρ S = (f ρ S).bind fun x S1 => match itemsLS S1 x with
  | some xs => mkLst xs.reverse S1
  | none => .bad := (rfl)
@[simp] theorem e_revT : revTF f ρ S = (f ρ S).bind fun x S1 => match x with
  | .d (.tuple ds) => mkTup (evs ds.reverse) S1
  | _ => .bad := (rfl)
@[simp] theorem e_call {q : List EV → Store → Res EV} : callF q fs ρ S = (fs ρ S).bind q := (rfl)
@[simp] theorem e_callG : callG n G fs ρ S = (fs ρ S).bind fun xs S1 => if xs.length = n then G xs S1 else .bad := (rfl)
@[simp] theorem e_callKw {ix : List Nat} : callKwF m n ix G fs ρ S = (fs ρ S).bind fun xs S1 => if xs.length = m ∧ (perm ix xs).length = n then G (perm ix xs) S1 else .bad := (rfl)
@[simp] theorem perm_nil {l : List α} : perm [] l = [] := (rfl)
theorem perm_cons {l : List α} {k : Nat} {r : List Nat} : perm (k :: r) l = (match l[k]? with | some a => a :: perm r l | none => perm r l) := by
  unfold perm
  rw [List.filterMap_cons]
  cases l[k]? <;> rfl
@[simp] theorem e_isi {t : String} : isiF f t ρ S = (f ρ S).bind fun x S1 => match tyName x with
  | some n => match kitB n t with
    | some b => .ok (.d (.bool b)) S1
    | none => .bad
  | none => .bad := (rfl)
@[simp] theorem e_nx : nxF ρ S = .nx ρ S := (rfl)
@[simp] theorem e_seq : seqF sf sg ρ S = (match sf ρ S with | .nx ρ1 S1 => sg ρ1 S1 | r => r) := (rfl)
@[simp] theorem e_expr : exprF f ρ S = (f ρ S).toS ρ fun _ S1 => .nx ρ S1 := (rfl)
@[simp] theorem e_ret : retF f ρ S = (f ρ S).toS ρ fun x S1 => .ret x S1 := (rfl)
@[simp] theorem e_retN : retNF ρ S = .ret (.d .none) S := (rfl)
@[simp] theorem e_ifS : ifSF c sf sg ρ S = (c ρ S).toS ρ fun b S1 => if b = true then sf ρ S1 else sg ρ S1 := (rfl)
@[simp] theorem e_set : setF n f ρ S = (f ρ S).toS ρ fun x S1 => .nx (ρ.set n (some x)) S1 := (rfl)
@[simp] theorem e_asg : asgF g f ρ S = (f ρ S).toS ρ fun x S1 => match g (.one x) ρ with
  | some ρ1 => .nx ρ1 S1
  | none => .bad := (rfl)
@[simp] theorem e_par : parF n m fs ρ S = (fs ρ S).toS ρ fun xs S1 => match xs with
  | [x, y] => .nx ((ρ.set n (some x)).set m (some y)) S1
  | _ => .bad := (rfl)
@[simp] theorem e_aug : augF n h f ρ S = (match ρ[n]? with
  | some (some x) => (f ρ S).toS ρ fun y S1 => (h x y S1).toS ρ fun z S2 => .nx (ρ.set n (some z)) S2
  | _ => .bad) := (rfl)
@[simp] theorem e_setIx : setIxF fo fi f ρ S = (f ρ S).toS ρ fun y S1 => (fo ρ S1).toS ρ fun x S2 => (fi ρ S2).toS ρ fun i S3 => match putL x i y S3 with
  | some S4 => .nx ρ S4
  | none => .bad := (rfl)
@[simp] theorem e_augIx : augIxF fo fi h f ρ S = (fo ρ S).toS ρ fun x S1 => (fi ρ S1).toS ρ fun i S2 => (gIxL x i S2).toS ρ fun z S3 => (f ρ S3).toS ρ fun y S4 => (h z y S4).toS ρ fun r S5 => match putL x i r S5 with
  | some S6 => .nx ρ S6
  | none => .bad := (rfl)
@[simp] theorem e_for : forSF If g sf ρ S = (If ρ S).toS ρ fun its S1 => forL g sf its ρ S1 := (rfl)
@[simp] theorem e_frzE : frzE f ρ S = (f ρ S).bind frzV := (rfl)
@[simp] theorem e_seqI : seqIF f ρ S = (f ρ S).bind fun x S1 => match fixB x with
  | some ds => .ok ((evs ds).map .one) S1
  | none => .bad := (rfl)
@[simp] theorem e_rng1 : rng1F fs ρ S = (fs ρ S).bind fun xs S1 => match xs with
  | [.d (.int j)] => if inW j = true then .ok (rngL 0 j.toNat) S1 else .bad
  | _ => .bad := (rfl)
@[simp] theorem e_rng2 : rng2F fs ρ S = (fs ρ S).bind fun xs S1 => match xs with
  | [.d (.int i), .d (.int j)] => if inW i = true ∧ inW j = true then .ok (rngL i (j - i).toNat) S1 else .bad
  | _ => .bad := (rfl)
@[simp] theorem e_en : enF fs ρ S = (fs ρ S).bind fun xs S1 => match xs with
  | [x] => match fixB x with
    | some ds => .ok (enL ds 0) S1
    | none => .bad
  | _ => .bad := (rfl)
@[simp] theorem e_zp : zpF fs ρ S = (fs ρ S).bind fun xs S1 => match xs with
  | [x, y] => match fixB x, fixB y with
    | some ds, some es => .ok (zpL ds es) S1
    | _, _ => .bad
  | _ => .bad := (rfl)
@[simp] theorem e_lr {mk : List EV → Store → Res EV} : lrF mk f ρ S = (f ρ S).bind fun x S1 => match x with
  | .d (.int n) => if n ≤ 16000000 ∧ -(2 ^ 62) ≤ n then mk (evs (intL 0 n.toNat)) S1 else .bad
  | _ => .bad := (rfl)
@[simp] theorem e_lc {mk : List EV → Store → Res EV} {t : BF} {e : EF} {vs : List Nat} : lcF mk If g t e vs ρ S = (If ρ S).bind fun its S1 => (lcL g t e (wipeR ρ vs) its S1).bindN mk := (rfl)
@[simp] theorem e_coll {mk : List EV → Store → Res EV} {t : BF} {e : EF} {vs : List Nat} : collF mk If g t e vs ρ S = (If ρ S).bind fun its S1 => mkColl mk (genT g t e (wipeR ρ vs) its S1) := (rfl)
@[simp] theorem e_dc {t : BF} {k v : EF} {vs : List Nat} : dcF If g t k v vs ρ S = (If ρ S).bind fun its S1 => (dcL g t k v (wipeR ρ vs) its [] S1).bindN mkDct := (rfl)
@[simp] theorem e_mth {ty : String} {q : EV → List EV → Store → Res EV} : mthF ty q fo fs ρ S = (fo ρ S).bind fun x S1 => if isKind ty x S1 = true then (fs ρ S1).bind fun xs S2 => q x xs S2 else .bad := (rfl)
@[simp] theorem e_idx : idxF fo f ρ S = (fo ρ S).bind fun x S1 => match x with
  | .d (.tuple ds) => (f ρ S1).bind fun y S2 => gIdxT (.d (.tuple ds)) y S2
  | _ => .bad := (rfl)
@[simp] theorem e_name : nameG n (.one x) ρ = some (ρ.set n (some x)) := (rfl)
@[simp] theorem e_nilG : nilG [] ρ = some ρ := (rfl)
@[simp] theorem e_consG {it : Itm} {r : List Itm} : consG g gs (it :: r) ρ = (g it ρ).bind fun ρ1 => gs r ρ1 := (rfl)
@[simp] theorem e_tupG : tupG n gs (.row xs) ρ = if xs.length = n then gs (xs.map .one) ρ else none := (rfl)
@[simp] theorem e_tupG1 : tupG n gs (.one (.d (.tuple ds))) ρ = if ds.length = n then gs ((evs ds).map .one) ρ else none := by
  show (if (evs ds).length = n then gs ((evs ds).map .one) ρ else none) = _
  simp [evs]
@[simp] theorem e_tupG2 : tupG n gs (.one (.d (.list ds))) ρ = if ds.length = n then gs ((evs ds).map .one) ρ else none := (rfl)
@[simp] theorem e_wipe0 : wipeR ρ [] = ρ := (rfl)
@[simp] theorem e_wipe1 {v : Nat} {vs : List Nat} : wipeR ρ (v :: vs) = (wipeR ρ vs).set v none := (rfl)
@[simp] theorem e_yes : yesF ρ S = .ok true S := (rfl)
@[simp] theorem evs_nil : evs [] = [] := (rfl)
@[simp] theorem evs_cons {d : PyData} : evs (d :: ds) = .d d :: evs ds := (rfl)
@[simp] theorem evs_len : (evs ds).length = ds.length := by simp [evs]
@[simp] theorem evs_get : (evs ds)[n]? = (ds[n]?).map .d := by simp [evs]
theorem datas_evs' : datas (evs ds) = some ds := by
  induction ds with
  | nil => rfl
  | cons d ds ih => show (datas (evs ds)).map _ = _; rw [ih]; rfl
@[simp] theorem mkTup_evs : mkTup (evs ds) S = if ds.length ≤ sizeLine then .ok (.d (.tuple ds)) S else .bad := by unfold mkTup; rw [datas_evs']
@[simp] theorem mkLst_evs : mkLst (evs ds) S = if ds.length ≤ sizeLine then .ok (.d (.list ds)) S else .bad := by unfold mkLst; rw [datas_evs']
@[simp] theorem mkTup_nil : mkTup [] S = .ok (.d (.tuple [])) S := by have := mkTup_evs (ds := []) (S := S); simpa using this
@[simp] theorem mkLst_nil : mkLst [] S = .ok (.d (.list [])) S := by have := mkLst_evs (ds := []) (S := S); simpa using this
theorem mkTup_of (e : xs = evs ds) (hl : ds.length ≤ sizeLine) : mkTup xs S = .ok (.d (.tuple ds)) S := by rw [e, mkTup_evs, if_pos hl]
theorem mkLst_of (e : xs = evs ds) (hl : ds.length ≤ sizeLine) : mkLst xs S = .ok (.d (.list ds)) S := by rw [e, mkLst_evs, if_pos hl]
@[simp] theorem mkTup_d {d : PyData} : mkTup (.d d :: evs ds) S = if ds.length + 1 ≤ sizeLine then .ok (.d (.tuple (d :: ds))) S else .bad := mkTup_evs (ds := d :: ds)
@[simp] theorem mkTup_1 {a : PyData} : mkTup [.d a] S = .ok (.d (.tuple [a])) S := mkTup_of (ds := [a]) rfl (by simp [sizeLine])
@[simp] theorem mkTup_2 {a b : PyData} : mkTup [.d a, .d b] S = .ok (.d (.tuple [a, b])) S := mkTup_of (ds := [a, b]) rfl (by simp [sizeLine])
@[simp] theorem mkTup_3 {a b c : PyData} : mkTup [.d a, .d b, .d c] S = .ok (.d (.tuple [a, b, c])) S := mkTup_of (ds := [a, b, c]) rfl (by simp [sizeLine])
@[simp] theorem mkLst_1 {a : PyData} : mkLst [.d a] S = .ok (.d (.list [a])) S := mkLst_of (ds := [a]) rfl (by simp [sizeLine])
@[simp] theorem mkLst_2 {a b : PyData} : mkLst [.d a, .d b] S = .ok (.d (.list [a, b])) S := mkLst_of (ds := [a, b]) rfl (by simp [sizeLine])
@[simp] theorem mkLst_3 {a b c : PyData} : mkLst [.d a, .d b, .d c] S = .ok (.d (.list [a, b, c])) S := mkLst_of (ds := [a, b, c]) rfl (by simp [sizeLine])
@[simp] theorem mkLst_4 {a b c d : PyData} : mkLst [.d a, .d b, .d c, .d d] S = .ok (.d (.list [a, b, c, d])) S := mkLst_of (ds := [a, b, c, d]) rfl (by simp [sizeLine])
@[simp] theorem mkLst_7 {a b c d e f g : PyData} : mkLst [.d a, .d b, .d c, .d d, .d e, .d f, .d g] S = .ok (.d (.list [a, b, c, d, e, f, g])) S := mkLst_of (ds := [a, b, c, d, e, f, g]) rfl (by simp [sizeLine])
theorem mkOwn_of (hl : xs.length ≤ sizeLine) : mkOwn xs S = .ok (.own S.length) (S ++ [.lst xs]) := by unfold mkOwn; rw [if_pos hl]
@[simp] theorem mkOwn_0 : mkOwn [] S = .ok (.own S.length) (S ++ [.lst []]) := mkOwn_of (Nat.zero_le _)
@[simp] theorem mkOwn_6 {a b c d e f : EV} : mkOwn [a, b, c, d, e, f] S = .ok (.own S.length) (S ++ [.lst [a, b, c, d, e, f]]) := mkOwn_of (by simp [sizeLine])
@[simp] theorem fix_list : fixB (.d (.list ds)) = some ds := (rfl)
@[simp] theorem fix_tup : fixB (.d (.tuple ds)) = some ds := (rfl)
@[simp] theorem fix_scr : fixB (.scr ds) = some ds := (rfl)
@[simp] theorem iLS_list : itemsLS S (.d (.list ds)) = some (evs ds) := (rfl)
@[simp] theorem iLS_scr : itemsLS S (.scr ds) = some (evs ds) := (rfl)
@[simp] theorem iLS_tup : itemsLS S (.d (.tuple ds)) = none := (rfl)
theorem iLS_own (e : S[n]? = some (.lst xs)) : itemsLS S (.own n) = some xs := by simp [itemsLS, itemsL, e]
@[simp] theorem iT_tup : itemsT (.d (.tuple ds)) = some (evs ds) := (rfl)
@[simp] theorem iT_list : itemsT (.d (.list ds)) = none := (rfl)
@[simp] theorem iL_list : itemsL S (.d (.list ds)) = some (evs ds) := (rfl)
theorem iL_own (e : S[n]? = some (.lst xs)) : itemsL S (.own n) = some xs := by simp [itemsL, e]
@[simp] theorem len_list : gLen [.d (.list ds)] S = .ok (.d (.int ds.length)) S := by simp [gLen]
@[simp] theorem len_tup : gLen [.d (.tuple ds)] S = .ok (.d (.int ds.length)) S := by simp [gLen]
@[simp] theorem len_scr : gLen [.scr ds] S = .ok (.d (.int ds.length)) S := by simp [gLen]
theorem len_own (e : S[n]? = some (.lst xs)) : gLen [.own n] S = .ok (.d (.int xs.length)) S := by simp [gLen, iLS_own e]
@[simp] theorem int_int : gInt [.d (.int i)] S = .ok (.d (.int i)) S := (rfl)
@[simp] theorem int_bool (b : Bool) : gInt [.d (.bool b)] S = .ok (.d (.int (if b then 1 else 0))) S := (rfl)
@[simp] theorem abs_int : gAbs [.d (.int i)] S = .ok (.d (.int (if i < 0 then -i else i))) S := (rfl)
@[simp] theorem list_list : gList [.d (.list ds)] S = if ds.length ≤ sizeLine then .ok (.d (.list ds)) S else .bad := by simp [gList, gListW]
@[simp] theorem list_tup : gList [.d (.tuple ds)] S = if ds.length ≤ sizeLine then .ok (.d (.list ds)) S else .bad := by simp [gList, gListW]
theorem list_own (e : S[n]? = some (.lst (evs ds))) (hl : ds.length ≤ sizeLine) : gList [.own n] S = .ok (.d (.list ds)) S := by simp [gList, gListW, iLS_own e, hl]
@[simp] theorem listO_tup : gListO [.d (.tuple ds)] S = mkOwn (evs ds) S := by simp [gListO, gListW]
@[simp] theorem listO_list : gListO [.d (.list ds)] S = mkOwn (evs ds) S := by simp [gListO, gListW]
@[simp] theorem tuple_list : gTuple [.d (.list ds)] S = if ds.length ≤ sizeLine then .ok (.d (.tuple ds)) S else .bad := by simp [gTuple]
@[simp] theorem tuple_tup : gTuple [.d (.tuple ds)] S = .ok (.d (.tuple ds)) S := by simp [gTuple]
theorem tuple_own (e : S[n]? = some (.lst (evs ds))) (hl : ds.length ≤ sizeLine) : gTuple [.own n] S = .ok (.d (.tuple ds)) S := by simp [gTuple, iLS_own e, hl]
@[simp] theorem gI_int {C : Int → Int → Prop} [∀ i j, Decidable (C i j)] {q : Int → Int → Int} : gI C q (.d (.int i)) (.d (.int j)) S = if C i j then .ok (.d (.int (q i j))) S else .bad := (rfl)
@[simp] theorem gC_int {q : Int → Int → Bool} : gC q (.d (.int i)) (.d (.int j)) S = .ok (.d (.bool (q i j))) S := (rfl)
@[simp] theorem ctrue : CTrue i j = True := (rfl)
@[simp] theorem add_int : gAdd (.d (.int i)) (.d (.int j)) S = .ok (.d (.int (i + j))) S := by simp [gAdd, gOr]
@[simp] theorem add_tup : gAdd (.d (.tuple ds)) (.d (.tuple es)) S = if ds.length + es.length ≤ sizeLine then .ok (.d (.tuple (ds ++ es))) S else .bad := by
  by_cases hl : ds.length + es.length ≤ sizeLine <;> simp [gAdd, gOr, gI, gAddS, gAddT, hl, gAddL, itemsL]
@[simp] theorem add_lst : gAdd (.d (.list ds)) (.d (.list es)) S = if ds.length + es.length ≤ sizeLine then .ok (.d (.list (ds ++ es))) S else .bad := by
  have e : evs ds ++ evs es = evs (ds ++ es) := by simp [evs]
  by_cases hl : ds.length + es.length ≤ sizeLine <;> simp [gAdd, gOr, gI, gAddS, gAddT, hl, gAddL, itemsL, e]
@[simp] theorem add_str {a b : Str} : gAdd (.d (.str a)) (.d (.str b)) S = if a.length + b.length ≤ sizeLine then .ok (.d (.str (a ++ b))) S else .bad := by
  by_cases hl : a.length + b.length ≤ sizeLine <;> simp [gAdd, gOr, gI, gAddS, gAddT, hl, gAddL, itemsL]
@[simp] theorem mul_int : gMulA (.d (.int i)) (.d (.int j)) S = if CMul i j then .ok (.d (.int (i * j))) S else .bad := by
  by_cases hl : CMul i j <;> simp [gMulA, gMul, gOr, gI, gRepS, gRepT, gRepL, gOnce, hl, itemsL]
theorem mul_small (hj : -(2 ^ 64) < j ∧ j < 2 ^ 64) : gMulA (.d (.int i)) (.d (.int j)) S = .ok (.d (.int (i * j))) S := by rw [mul_int, if_pos (show CMul i j from Or.inr hj)]
theorem mul_smallL (hj : -(2 ^ 64) < i ∧ i < 2 ^ 64) : gMulA (.d (.int i)) (.d (.int j)) S = .ok (.d (.int (i * j))) S := by rw [mul_int, if_pos (show CMul i j from Or.inl hj)]
theorem shaped_int : SeqAt.shaped (.int i) = true := (rfl)
@[simp] theorem eq_int {neg : Bool} : gEq neg (.d (.int i)) (.d (.int j)) S = .ok (.d (.bool (neg ^^ (i == j)))) S := by
  show (if SeqAt.shaped (.int i) = true ∧ SeqAt.shaped (.int j) = true then Res.ok (EV.d (.bool (neg ^^ PyData.eqv (.int i) (.int j)))) S else .bad) = _
  rw [if_pos ⟨rfl, rfl⟩]
  simp only [PyData.eqv]
theorem shaped_str {a : Str} (h : PyData.strOk a = true) : SeqAt.shaped (.str a) = true := by
  show (PyData.canLay0 (.str a) && decide (PyData.depth (.str a) ≤ 64)) = true
  simp [PyData.canLay0, h, PyData.depth]
theorem eq_str {neg : Bool} {a b : Str} (ha : PyData.strOk a = true) (hb : PyData.strOk b = true) : gEq neg (.d (.str a)) (.d (.str b)) S = .ok (.d (.bool (neg ^^ (a == b)))) S := by
  show (if SeqAt.shaped (.str a) = true ∧ SeqAt.shaped (.str b) = true then Res.ok (EV.d (.bool (neg ^^ PyData.eqv (.str a) (.str b)))) S else .bad) = _
  rw [if_pos ⟨shaped_str ha, shaped_str hb⟩]
  simp only [PyData.eqv]
theorem atI_nat {xs : List α} : atI xs (n : Int) = xs[n]? := by
  unfold atI ixN
  rw [if_pos (by omega)]
  by_cases hn : n < xs.length
  · rw [if_pos (by omega)]; simp
  · rw [if_neg (by omega)]; simp; omega
theorem atI_int {xs : List α} (h0 : 0 ≤ i) : atI xs i = xs[i.toNat]? := by
  have e : atI xs i = atI xs (i.toNat : Int) := by rw [Int.toNat_of_nonneg h0]
  rw [e, atI_nat]
@[simp] theorem gIx_list : gIx (.d (.list ds)) (.d (.int i)) S = optR ((atI ds i).map .d) S := by
  have e : atI (evs ds) i = (atI ds i).map .d := by
    unfold atI
    rw [evs_len]
    cases ixN ds.length i <;> simp
  cases q : atI ds i with
  | none => simp [gIx, gOr, gIxL, gIxT, gIxS, gIxD, optR, e, q, dictOf]
  | some d => simp [gIx, gOr, gIxL, optR, e, q]
@[simp] theorem gIx_scr : gIx (.scr ds) (.d (.int i)) S = optR ((atI ds i).map .d) S := by
  have e : atI (evs ds) i = (atI ds i).map .d := by
    unfold atI
    rw [evs_len]
    cases ixN ds.length i <;> simp
  cases q : atI ds i with
  | none => simp [gIx, gOr, gIxL, gIxT, gIxS, gIxD, optR, e, q, dictOf, itemsT]
  | some d => simp [gIx, gOr, gIxL, optR, e, q]
@[simp] theorem gIx_tup : gIx (.d (.tuple ds)) (.d (.int i)) S = optR ((atI ds i).map .d) S := by
  have e : atI (evs ds) i = (atI ds i).map .d := by
    unfold atI
    rw [evs_len]
    cases ixN ds.length i <;> simp
  cases q : atI ds i with
  | none => simp [gIx, gOr, gIxL, gIxT, gIxS, gIxD, optR, e, q, dictOf]
  | some d => simp [gIx, gOr, gIxL, gIxT, optR, e, q]
theorem gIxL_own (e : S[n]? = some (.lst xs)) : gIxL (.own n) (.d (.int i)) S = optR (atI xs i) S := by simp [gIxL, iLS_own e]
theorem gIx_own (e : S[n]? = some (.lst xs)) {a : EV} (h : atI xs i = some a) : gIx (.own n) (.d (.int i)) S = .ok a S := by simp [gIx, gOr, gIxL, iLS_own e, h, optR]
theorem gIx_str {z : Str} {cp : Nat} (hz : z.length ≤ sizeLine) (h : atI z.cps.toList i = some cp) : gIx (.d (.str z)) (.d (.int i)) S = .ok (.d (.str ⟨#[cp]⟩)) S := by
  simp [gIx, gOr, gIxL, gIxT, gIxS, optR, itemsLS, itemsL, itemsS, itemsT, hz, h]
@[simp] theorem optR_some {a : α} : optR (some a) S = .ok a S := (rfl)
theorem putL_own (e : S[n]? = some (.lst xs)) {k : Nat} (hk : k < xs.length) : putL (.own n) (.d (.int (k : Int))) y S = some (S.set n (.lst (xs.set k y))) := by
  have q : ixN xs.length (k : Int) = some k := by unfold ixN; rw [if_pos (by omega), if_pos (by omega)]; simp
  simp [putL, e, q]
theorem app_own (e : S[n]? = some (.lst xs)) (hl : xs.length < sizeLine) : gAppend (.own n) [y] S = .ok (.d .none) (S.set n (.lst (xs ++ [y]))) := by simp [gAppend, ownOf, e, hl]
theorem kind_own (e : S[n]? = some (.lst xs)) : isKind "list" (.own n) S = true := by simp [isKind, iLS_own e]
@[simp] theorem kind_str {a : Str} : isKind "str" (.d (.str a)) S = true := (rfl)
theorem frz_own (e : S[n]? = some (.lst (evs ds))) : frzV (.own n) S = .ok (.d (.list ds)) (S.set n .gone) := by simp [frzV, e, datas_evs']
@[simp] theorem rng_len {lo : Int} : (rngL lo n).length = n := by simp [rngL]
theorem rng_get {lo : Int} {k : Nat} (hk : k < n) : (rngL lo n)[k]? = some (.one (.d (.int (lo + (k : Int))))) := by simp [rngL, hk]

/-! ### loops -/
theorem forL_inv (I : Nat → Rho → Store → Prop) : ∀ (its : List Itm) (k : Nat) (ρ : Rho) (S : Store), I k ρ S →
    (∀ (q : Nat) (it : Itm), its[q]? = some it → ∀ ρ S, I (k + q) ρ S → ∃ ρ1 ρ2 S2, g it ρ = some ρ1 ∧ (sf ρ1 S = .nx ρ2 S2 ∨ sf ρ1 S = .cont ρ2 S2) ∧ I (k + q + 1) ρ2 S2) →
    ∃ ρ' S', forL g sf its ρ S = .nx ρ' S' ∧ I (k + its.length) ρ' S'
  | [], k, ρ, S, h, _ => ⟨ρ, S, rfl, h⟩
  | it :: r, k, ρ, S, h, st => by
    obtain ⟨ρ1, ρ2, S2, e1, e2, h2⟩ := st 0 it rfl ρ S h
    obtain ⟨ρ', S', e3, h3⟩ := forL_inv I r (k + 1) ρ2 S2 h2 (fun q it hq ρ S hI => by
      have := st (q + 1) it (by simpa using hq) ρ S (by rw [show k + (q + 1) = k + 1 + q by omega]; exact hI)
      rw [show k + (q + 1) + 1 = k + 1 + q + 1 by omega] at this
      exact this)
    refine ⟨ρ', S', ?_, by rw [List.length_cons, show k + (r.length + 1) = k + 1 + r.length by omega]; exact h3⟩
    rcases e2 with e2 | e2
    · simp only [forL, e1, e2, e3]
    · simp only [forL, e1, e2, e3]
/-- a loop that runs to its end -/
theorem forL_run {its : List Itm} (I : Nat → Rho → Store → Prop) (h0 : I 0 ρ S)
    (st : ∀ (q : Nat) (it : Itm), its[q]? = some it → ∀ ρ S, I q ρ S → ∃ ρ1 ρ2 S2, g it ρ = some ρ1 ∧ (sf ρ1 S = .nx ρ2 S2 ∨ sf ρ1 S = .cont ρ2 S2) ∧ I (q + 1) ρ2 S2) :
    ∃ ρ' S', forL g sf its ρ S = .nx ρ' S' ∧ I its.length ρ' S' := by
  have := forL_inv I its 0 ρ S h0 (fun q it hq ρ S hI => by
    rw [Nat.zero_add] at hI ⊢
    exact st q it hq ρ S hI)
  rwa [Nat.zero_add] at this
theorem lcL_inv {t : BF} {e : EF} (I : Nat → List EV → Store → Prop) : ∀ (its : List Itm) (k : Nat) (acc : List EV) (S : Store), I k acc S →
    (∀ (q : Nat) (it : Itm), its[q]? = some it → ∀ acc S, I (k + q) acc S → ∃ ρ1, g it ρ = some ρ1 ∧ ((∃ S1, t ρ1 S = .ok false S1 ∧ I (k + q + 1) acc S1) ∨ ∃ S1 y S2, t ρ1 S = .ok true S1 ∧ e ρ1 S1 = .ok y S2 ∧ I (k + q + 1) (acc ++ [y]) S2)) →
    ∃ ys S', lcL g t e ρ its S = .ok ys S' ∧ I (k + its.length) (acc ++ ys) S'
  | [], k, acc, S, h, _ => ⟨[], S, rfl, by simpa using h⟩
  | it :: r, k, acc, S, h, st => by
    obtain ⟨ρ1, e1, h1⟩ := st 0 it rfl acc S h
    have st' : ∀ (q : Nat) (it : Itm), r[q]? = some it → ∀ acc S, I (k + 1 + q) acc S → ∃ ρ1, g it ρ = some ρ1 ∧ ((∃ S1, t ρ1 S = .ok false S1 ∧ I (k + 1 + q + 1) acc S1) ∨ ∃ S1 y S2, t ρ1 S = .ok true S1 ∧ e ρ1 S1 = .ok y S2 ∧ I (k + 1 + q + 1) (acc ++ [y]) S2) := fun q it hq acc S hI => by
      have := st (q + 1) it (by simpa using hq) acc S (by rw [show k + (q + 1) = k + 1 + q by omega]; exact hI)
      rw [show k + (q + 1) + 1 = k + 1 + q + 1 by omega] at this
      exact this
    rcases h1 with ⟨S1, e2, h2⟩ | ⟨S1, y, S2, e2, e3, h2⟩
    · obtain ⟨ys, S', e4, h4⟩ := lcL_inv I r (k + 1) acc S1 h2 st'
      refine ⟨ys, S', ?_, by rw [List.length_cons, show k + (r.length + 1) = k + 1 + r.length by omega]; exact h4⟩
      simp [lcL, e1, e2, e4]
    · obtain ⟨ys, S', e4, h4⟩ := lcL_inv I r (k + 1) (acc ++ [y]) S2 h2 st'
      refine ⟨y :: ys, S', ?_, by rw [List.length_cons, show k + (r.length + 1) = k + 1 + r.length by omega]; simpa using h4⟩
      simp [lcL, e1, e2, e3, e4]
theorem lcL_run {t : BF} {e : EF} {its : List Itm} (I : Nat → List EV → Store → Prop) (h0 : I 0 [] S)
    (st : ∀ (q : Nat) (it : Itm), its[q]? = some it → ∀ acc S, I q acc S → ∃ ρ1, g it ρ = some ρ1 ∧ ((∃ S1, t ρ1 S = .ok false S1 ∧ I (q + 1) acc S1) ∨ ∃ S1 y S2, t ρ1 S = .ok true S1 ∧ e ρ1 S1 = .ok y S2 ∧ I (q + 1) (acc ++ [y]) S2)) :
    ∃ ys S', lcL g t e ρ its S = .ok ys S' ∧ I its.length ys S' := by
  have := lcL_inv (g := g) (t := t) (e := e) (ρ := ρ) I its 0 [] S h0 (fun q it hq acc S hI => by
    rw [Nat.zero_add] at hI ⊢
    exact st q it hq acc S hI)
  rw [Nat.zero_add] at this
  simpa using this
/-- a list comprehension whose parts leave the store alone -/
theorem lcL_pure {γ : Type} {t : BF} {e : EF} (mkI : γ → Itm) (p : γ → Bool) (F : γ → EV) : ∀ (cs : List γ), (∀ c ∈ cs, ∃ ρ1, g (mkI c) ρ = some ρ1 ∧ t ρ1 S = .ok (p c) S ∧ (p c = true → e ρ1 S = .ok (F c) S)) →
    lcL g t e ρ (cs.map mkI) S = .ok ((cs.filter p).map F) S
  | [], _ => rfl
  | c :: r, h => by
    obtain ⟨ρ1, e1, e2, e3⟩ := h c (by simp)
    have ih := lcL_pure mkI p F r (fun c hc => h c (by simp [hc]))
    cases q : p c with
    | true => simp [lcL, e1, e2, e3 q, ih, q, List.filter_cons]
    | false => simp [lcL, e1, e2, ih, q, List.filter_cons]
theorem genT_pure {γ : Type} {t : BF} {e : EF} (mkI : γ → Itm) (p : γ → Bool) (F : γ → EV) : ∀ (cs : List γ), (∀ c ∈ cs, ∃ ρ1, g (mkI c) ρ = some ρ1 ∧ t ρ1 S = .ok (p c) S ∧ (p c = true → e ρ1 S = .ok (F c) S)) →
    collT (genT g t e ρ (cs.map mkI) S) = some ((cs.filter p).map F, S)
  | [], _ => rfl
  | c :: r, h => by
    obtain ⟨ρ1, e1, e2, e3⟩ := h c (by simp)
    have ih := genT_pure mkI p F r (fun c hc => h c (by simp [hc]))
    cases q : p c with
    | true => simp [genT, collT, e1, e2, e3 q, ih, q, List.filter_cons]
    | false => simp [genT, collT, e1, e2, ih, q, List.filter_cons]
end
end Z
set_option maxRecDepth 100000
set_option maxHeartbeats 4000000
/-! Z19: a list that is changed, within the store. -/
namespace Z
open PySem PySem.Spec PyProof.Rows L2
section
variable {α β : Type} {ρ : Rho} {S S1 S2 : Store} {n p : Nat} {x y : EV} {xs ys : List EV} {ds es : List PyData} {i : Int}
theorem set_get (hn : n < S.length) {o : SO} : (S.set n o)[n]? = some o := by simp [hn]
theorem iLS_set (hn : n < S.length) : itemsLS (S.set n (.lst xs)) (.own n) = some xs := iLS_own (set_get hn)
theorem atI_own (e : S[n]? = some (.lst xs)) : gIx (.own n) (.d (.int i)) S = optR (atI xs i) S := by
  cases q : atI xs i with
  | none => simp [gIx, gOr, gIxL, gIxT, gIxS, gIxD, optR, iLS_own e, q, dictOf, e, itemsT]
  | some a => exact gIx_own e q
theorem gIx_set (hn : n < S.length) : gIx (.own n) (.d (.int i)) (S.set n (.lst xs)) = optR (atI xs i) (S.set n (.lst xs)) := atI_own (set_get hn)
theorem gIxL_set (hn : n < S.length) : gIxL (.own n) (.d (.int i)) (S.set n (.lst xs)) = optR (atI xs i) (S.set n (.lst xs)) := gIxL_own (set_get hn)
theorem putL_set (hn : n < S.length) : putL (.own n) (.d (.int i)) y (S.set n (.lst xs)) = (ixN xs.length i).map fun j => S.set n (.lst (xs.set j y)) := by
  have e : (S.set n (.lst xs))[n]? = some (.lst xs) := set_get hn
  unfold putL
  simp only [e]
  cases ixN xs.length i <;> simp
theorem put_own (e : S[n]? = some (.lst xs)) : putL (.own n) (.d (.int i)) y S = (ixN xs.length i).map fun j => S.set n (.lst (xs.set j y)) := by
  unfold putL
  simp only [e]
  cases ixN xs.length i <;> simp
theorem as_set {o : SO} (e : S[n]? = some o) : n < S.length ∧ S = S.set n o := by
  obtain ⟨hn, e2⟩ := List.getElem?_eq_some_iff.mp e
  refine ⟨hn, ?_⟩
  rw [← e2, List.set_getElem_self]
theorem ixN_int {n : Nat} {i : Int} (h0 : 0 ≤ i) (h1 : i < n) : ixN n i = some i.toNat := by
  unfold ixN
  rw [if_pos h0, if_pos h1]
theorem atI_lt {xs : List α} (h0 : 0 ≤ i) (h1 : i < xs.length) : ∃ a, atI xs i = some a ∧ a ∈ xs := by
  rw [atI_int h0]
  have h2 : i.toNat < xs.length := by omega
  exact ⟨xs[i.toNat], by simp [h2], List.getElem_mem _⟩
theorem fmod_range {a m : Int} (hm : 0 < m) : 0 ≤ a.fmod m ∧ a.fmod m < m := ⟨Int.fmod_nonneg_of_pos a hm, Int.fmod_lt_of_pos a hm⟩
/-- left[:at] + left[at+1:] -/
theorem cut_to {l : List α} {k : Nat} (hk : k ≤ l.length) : cutE l none (some (k : Int)) = l.take k := by
  unfold cutE
  rw [HT.sIx_none, HT.sIx_nat, Nat.min_eq_left hk]
  simp
theorem cut_from {l : List α} {k : Nat} : cutE l (some (k : Int)) none = l.drop k := by
  unfold cutE
  rw [HT.sIx_none, HT.sIx_nat]
  by_cases hk : k ≤ l.length
  · rw [Nat.min_eq_left hk, ← List.length_drop, List.take_length]
  · rw [Nat.min_eq_right (by omega), List.drop_eq_nil_of_le (show l.length ≤ l.length by omega), List.drop_eq_nil_of_le (by omega : l.length ≤ k)]
    simp
@[simp] theorem sl_list {lo hi : Option Int} : gSl (.d (.list ds)) lo hi S = if (cutE ds lo hi).length ≤ sizeLine then .ok (.d (.list (cutE ds lo hi))) S else .bad := by
  have e : cutE (evs ds) lo hi = evs (cutE ds lo hi) := by simp [cutE, evs, List.map_take, List.map_drop]
  show mkLst (cutE (evs ds) lo hi) S = _
  rw [e, mkLst_evs]
@[simp] theorem sl_scr {lo hi : Option Int} : gSl (.scr ds) lo hi S = if (cutE ds lo hi).length ≤ sizeLine then .ok (.d (.list (cutE ds lo hi))) S else .bad := by
  have e : cutE (evs ds) lo hi = evs (cutE ds lo hi) := by simp [cutE, evs, List.map_take, List.map_drop]
  show mkLst (cutE (evs ds) lo hi) S = _
  rw [e, mkLst_evs]
@[simp] theorem sl_tup {lo hi : Option Int} : gSl (.d (.tuple ds)) lo hi S = .ok (.d (.tuple (cutE ds lo hi))) S := rfl
@[simp] theorem sl_str {z : Str} {lo hi : Option Int} : gSl (.d (.str z)) lo hi S = if z.length ≤ sizeLine then .ok (.d (.str (cutS z lo hi))) S else .bad := rfl
theorem cutE_len {l : List α} {lo hi : Option Int} : (cutE l lo hi).length ≤ l.length := by
  unfold cutE
  simp
  omega
theorem drop_one_perm {l : List α} {k : Nat} {a : α} (h : l[k]? = some a) : (a :: (l.take k ++ l.drop (k + 1))).Perm l := by
  obtain ⟨hk, e⟩ := List.getElem?_eq_some_iff.mp h
  have h2 : l = l.take k ++ a :: l.drop (k + 1) := by
    rw [← e, List.getElem_cons_drop, List.take_append_drop]
  exact (List.perm_middle.symm).trans (List.Perm.of_eq h2.symm)

theorem at6_0 {α : Type} {a b c d e f : α} : atI [a, b, c, d, e, f] 0 = some a := rfl
theorem ix6_0 : ixN 6 0 = some 0 := rfl
theorem at6_1 {α : Type} {a b c d e f : α} : atI [a, b, c, d, e, f] 1 = some b := rfl
theorem ix6_1 : ixN 6 1 = some 1 := rfl
theorem at6_2 {α : Type} {a b c d e f : α} : atI [a, b, c, d, e, f] 2 = some c := rfl
theorem ix6_2 : ixN 6 2 = some 2 := rfl
theorem at6_3 {α : Type} {a b c d e f : α} : atI [a, b, c, d, e, f] 3 = some d := rfl
theorem ix6_3 : ixN 6 3 = some 3 := rfl
theorem at6_4 {α : Type} {a b c d e f : α} : atI [a, b, c, d, e, f] 4 = some e := rfl
theorem ix6_4 : ixN 6 4 = some 4 := rfl
theorem at6_5 {α : Type} {a b c d e f : α} : atI [a, b, c, d, e, f] 5 = some f := rfl
theorem ix6_5 : ixN 6 5 = some 5 := rfl
theorem small {m : Nat} (h : m ≤ 10000) : m ≤ sizeLine := by
  have e : sizeLine = 16777216 := sizeLine_eq
  omega
theorem small' {m : Nat} (h : m ≤ 10000) : m < sizeLine := by
  have e : sizeLine = 16777216 := sizeLine_eq
  omega
theorem inW_nat {m : Nat} (h : m ≤ 10000) : inW (m : Int) = true := inW_iff.mpr ⟨by omega, by omega⟩
/-! ### the tape of draws (its list is at n) -/
def tp (a b c d e : Int) (cs : List Int) : SO := .lst [.d (.int a), .d (.int b), .d (.int c), .d (.int d), .d (.list (cs.map .int)), .d (.int e)]
def St (n : Nat) (S : Store) : Prop := ∃ a b c d e cs, S[n]? = some (tp a b c d e cs) ∧ 0 ≤ b
structure Fr (n : Nat) (S S' : Store) : Prop where
  st : St n S'
  le : S.length ≤ S'.length
  eq : ∀ j, j ≠ n → j < S.length → S'[j]? = S[j]?
theorem St.lt (h : St n S) : n < S.length := by
  obtain ⟨_, _, _, _, _, _, e, _⟩ := h
  exact (List.getElem?_eq_some_iff.mp e).1
theorem Fr.refl (h : St n S) : Fr n S S := ⟨h, Nat.le_refl _, fun _ _ _ => rfl⟩
theorem Fr.trans (h : Fr n S S1) (k : Fr n S1 S2) : Fr n S S2 := ⟨k.st, Nat.le_trans h.le k.le, fun j h1 h2 => (k.eq j h1 (Nat.lt_of_lt_of_le h2 h.le)).trans (h.eq j h1 h2)⟩
theorem St.app (h : St n S) : St n (S ++ S1) := by
  have hl := h.lt
  obtain ⟨a, b, c, d, e, cs, q, h0⟩ := h
  exact ⟨a, b, c, d, e, cs, by rw [List.getElem?_append_left hl]; exact q, h0⟩
theorem Fr.app (h : St n S) : Fr n S (S ++ S1) := ⟨h.app, by simp, fun j _ h2 => List.getElem?_append_left h2⟩
theorem St.other (h : St n S) {o : SO} (hp : p ≠ n) : St n (S.set p o) := by
  obtain ⟨a, b, c, d, e, cs, q, h0⟩ := h
  exact ⟨a, b, c, d, e, cs, by rw [List.getElem?_set_ne hp]; exact q, h0⟩
/-- a change of what was not there before -/
theorem Fr.other (h : Fr n S S1) {o : SO} (hp : S.length ≤ p) (hn : n < S.length) : Fr n S (S1.set p o) :=
  ⟨h.st.other (by omega), by simpa using h.le, fun j h1 h2 => by rw [List.getElem?_set_ne (by omega)]; exact h.eq j h1 h2⟩
theorem Fr.mk_set2 {a b c d e : Int} {cs : List Int} {o : SO} (hn : n < S.length) (h0 : 0 ≤ b) : Fr n (S.set n o) (S.set n (tp a b c d e cs)) :=
  ⟨⟨a, b, c, d, e, cs, set_get hn, h0⟩, by simp, fun j h1 _ => by rw [List.getElem?_set_ne (fun z => h1 z.symm), List.getElem?_set_ne (fun z => h1 z.symm)]⟩
theorem Fr.mk_set {a b c d e : Int} {cs : List Int} (hn : n < S.length) (h0 : 0 ≤ b) : Fr n S (S.set n (tp a b c d e cs)) :=
  ⟨⟨a, b, c, d, e, cs, set_get hn, h0⟩, by simp, fun j h1 _ => List.getElem?_set_ne (fun z => h1 z.symm)⟩
end
end Z
set_option maxRecDepth 100000
set_option maxHeartbeats 4000000
/-! Z20: texts. -/
namespace Z
open PySem PySem.Spec PyProof.Rows L2
section
variable {S : Store} {a b : Str} {lo hi : Option Int} {i : Int}
theorem strOk_iff : PyData.strOk a = true ↔ ∀ c ∈ a.cps.toList, c < 0x110000 := by
  unfold PyData.strOk
  rw [← Array.all_toList, List.all_eq_true]
  simp
theorem app_list : (a ++ b).cps.toList = a.cps.toList ++ b.cps.toList := by
  show (a.cps ++ b.cps).toList = _
  simp
theorem len_list_ : a.length = a.cps.toList.length := by show a.cps.size = _; simp
theorem str_ext (h : a.cps.toList = b.cps.toList) : a = b := by
  cases a
  cases b
  simp only [Str.mk.injEq]
  exact Array.toList_inj.mp h
theorem ok_app (ha : PyData.strOk a = true) (hb : PyData.strOk b = true) : PyData.strOk (a ++ b) = true := by
  rw [strOk_iff] at *
  intro c hc
  rw [app_list, List.mem_append] at hc
  exact hc.elim (ha c) (hb c)
theorem len_app : (a ++ b).length = a.length + b.length := by rw [len_list_, app_list, List.length_append, ← len_list_, ← len_list_]
theorem ok_cut (ha : PyData.strOk a = true) : PyData.strOk (cutS a lo hi) = true := by
  rw [strOk_iff] at *
  intro c hc
  unfold cutS at hc
  exact ha c (List.mem_of_mem_drop (List.mem_of_mem_take hc))
theorem len_cut : (cutS a lo hi).length ≤ a.length := by
  rw [len_list_, len_list_]
  unfold cutS
  simp
  omega
theorem ok_one {c : Nat} (h : c < 0x110000) : PyData.strOk ⟨#[c]⟩ = true := by
  rw [strOk_iff]
  simpa using h
theorem len_one {c : Nat} : (⟨#[c]⟩ : Str).length = 1 := rfl
theorem ok_empty : PyData.strOk Str.empty = true := by rw [strOk_iff]; intro c hc; exact absurd hc (by simp [Str.empty])
theorem ok_join {sep : Str} (hs : PyData.strOk sep = true) : ∀ zs : List Str, (∀ z ∈ zs, PyData.strOk z = true) → PyData.strOk (Txt.join sep zs) = true := by
  have : ∀ zs : List Str, (∀ z ∈ zs, PyData.strOk z = true) → PyData.strOk (Str.join sep zs) = true := by
    intro zs
    induction zs with
    | nil => exact fun _ => ok_empty
    | cons x r ih =>
      intro h
      cases r with
      | nil => exact h x (by simp)
      | cons y r => exact ok_app (ok_app (h x (by simp)) hs) (ih fun z hz => h z (by simp [hz]))
  intro zs h
  rw [TL.join_eq]
  exact this zs h
theorem len_join {sep : Str} {zs : List Str} : (Txt.join sep zs).length ≤ (zs.map (·.length)).sum + zs.length * sep.length := by
  rw [TL.join_eq]
  exact StrLaws.join_length_le sep zs
theorem strs_map : ∀ zs : List Str, strsOf (zs.map .str) = some zs
  | [] => rfl
  | z :: r => by show (strsOf (r.map .str)).map (z :: ·) = _; rw [strs_map r]; rfl
theorem join_ok {zs : List Str} (h : (zs.map (·.length)).sum + zs.length * a.length ≤ 16777216) : gJoin (.d (.str a)) [.d (.list (zs.map .str))] S = .ok (.d (.str (Txt.join a zs))) S := by
  simp [gJoin, strs_map, h]
theorem mul_str (h1 : 0 ≤ i) (h2 : i ≤ 1000) (h3 : a.length ≤ 1000) : gMulA (.d (.str a)) (.d (.int i)) S = .ok (.d (.str (Txt.mul a i))) S := by
  simp [gMulA, gMul, gOr, gI, gRepS, h1, h2, h3]
theorem mul_zero_ : Txt.mul a 0 = Str.empty := rfl
theorem mul_one_ : Txt.mul a 1 = a := rfl
end
end Z
set_option maxRecDepth 100000
set_option maxHeartbeats 4000000
/-! Z21: a def as it stands behind the top. -/
namespace Z
open PySem PySem.Spec PyProof.Rows L2
section
variable {K : PySem.W.Frag} {mg mb : Str → Option Value} {h : Heap} {q : Program} {loose : List Str} {mean : ExcName → Option Value}
def DefAt (K : PySem.W.Frag) (mg : Str → Option Value) (x : Str) (st : Stmt) : Prop := ∃ f fd c, FunC K x x st f fd c ∧ mg x = some (.ref f) ∧ PySem.W.keepIn K (.ref f) = true
theorem def_mk {x : Str} {st : Stmt} {f c : Addr} {oc : Value} {od an : Option Addr} {osl : Array (Option Value)} {kV doc pm ct : Value} (X : K.In h) (G : h.Ns mainGlobals mg)
    (a : PySem.W.nsIn K mainGlobals x = some (some (.ref f))) (l : K.lookup f = some ⟨oc, od, .func (PySem.W.fnOf x x (defArgs st) (defBody st) (defScope st) .none kV doc pm an (.ref c) ct), osl⟩)
    (cc : PySem.W.codeIn K (.ref c) x = true) (k : PySem.W.keepIn K (.ref f) = true) : DefAt K mg x st :=
  ⟨f, _, c, funC_mk l cc k, PySem.W.mg_of X G a, k⟩
/-- .. that has generator expressions: its code's table -/
def DefT (K : PySem.W.Frag) (mg : Str → Option Value) (h : Heap) (x : Str) (st : Stmt) : Prop :=
  ∃ f fd c p, FunC K x x st f fd c ∧ mg x = some (.ref f) ∧ PySem.W.keepIn K (.ref f) = true ∧ h.get? p = some { cls := .none, data := .fields #[] } ∧ K.lookup p = none ∧ PySem.W.CodeHd h c p
theorem deft_mk {x : Str} {st : Stmt} {f c p : Addr} {oc : Value} {od an : Option Addr} {osl : Array (Option Value)} {kV doc pm ct : Value} {oc2 : Value} {od2 : Option Addr} {osl2 : Array (Option Value)} {vs : Array Value} {d : DefRec}
    (X : K.In h) (G : h.Ns mainGlobals mg) (T : Top q loose mean mg mb h)
    (a : PySem.W.nsIn K mainGlobals x = some (some (.ref f))) (l : K.lookup f = some ⟨oc, od, .func (PySem.W.fnOf x x (defArgs st) (defBody st) (defScope st) .none kV doc pm an (.ref c) ct), osl⟩)
    (cc : PySem.W.codeIn K (.ref c) x = true) (k : PySem.W.keepIn K (.ref f) = true) (t : K.lookup c = some ⟨oc2, od2, .fields vs, osl2⟩) (u : vs[11]? = some (.ref p)) (n : K.lookup p = none)
    (r : (recsOf q).find? (fun e => e.name == x) = some d) : DefT K mg h x st := by
  have ht : PySem.W.tabIn K x = some (c, p) := by
    unfold PySem.W.tabIn
    rw [a]
    show (match K.lookup f with | some ⟨_, _, .func fd, _⟩ => _ | _ => none) = _
    rw [l]
    show (match K.lookup c with | some ⟨_, _, .fields vs, _⟩ => _ | _ => none) = _
    rw [t]
    show (match (vs[11]? : Option Value) with | some (.ref P) => some (c, P) | _ => none) = _
    rw [u]
  obtain ⟨hc, hp⟩ := PySem.W.tab_of T X r ht
  exact ⟨f, _, c, p, funC_mk l cc k, PySem.W.mg_of X G a, k, hp, n, hc⟩
theorem FunC.bindsTo {x qual : Str} {st : Stmt} {f c : Addr} {fd : FuncData} {y : Str} (F : FunC K x qual st f fd c)
    (h : ∀ (kV doc pm : Value) (an : Option Addr) (cdv ct : Value) (u : Value), bindArgs (PySem.W.fnOf x qual (defArgs st) (defBody st) (defScope st) .none kV doc pm an cdv ct) ⟨[u], []⟩ = pure [(y, u)]) : ∀ (s : Shared) (u : Value), BindsTo s fd ⟨[u], []⟩ [(y, u)] := by
  obtain ⟨oc, od, kV, doc, pm, an, ct, osl, rfl, lk, hcd⟩ := F.ex
  exact fun s u => .of_eq (h kV doc pm an (.ref c) ct u)
end
end Z
set_option maxRecDepth 100000
set_option maxHeartbeats 4000000
/-! Z22: all, any, sum of generator expressions. -/
namespace Z
open PySem PySem.Spec PyProof.Rows L2 GenW
def allT : Tr → Option (Bool × Store)
  | .bad => none
  | .done S => some (true, S)
  | .yld (.d (.bool true)) _ r => allT r
  | .yld (.d (.bool false)) S _ => some (false, S)
  | .yld _ _ _ => none
def anyT : Tr → Option (Bool × Store)
  | .bad => none
  | .done S => some (false, S)
  | .yld (.d (.bool false)) _ r => anyT r
  | .yld (.d (.bool true)) S _ => some (true, S)
  | .yld _ _ _ => none
theorem allT_yld {y : EV} {S : Store} {r : Tr} {p : Bool × Store} (h : allT (.yld y S r) = some p) : (y = .d (.bool true) ∧ allT r = some p) ∨ (y = .d (.bool false) ∧ p = (false, S)) := by
  unfold allT at h
  split at h
  · rename_i e; cases e
  · rename_i e; cases e
  · rename_i e; cases e; exact .inl ⟨rfl, h⟩
  · rename_i e; cases e; cases h; exact .inr ⟨rfl, rfl⟩
  · cases h
theorem anyT_yld {y : EV} {S : Store} {r : Tr} {p : Bool × Store} (h : anyT (.yld y S r) = some p) : (y = .d (.bool false) ∧ anyT r = some p) ∨ (y = .d (.bool true) ∧ p = (true, S)) := by
  unfold anyT at h
  split at h
  · rename_i e; cases e
  · rename_i e; cases e
  · rename_i e; cases e; exact .inl ⟨rfl, h⟩
  · rename_i e; cases e; cases h; exact .inr ⟨rfl, rfl⟩
  · cases h
theorem intsOf_evs : ∀ {xs : List EV} {ns : List Int}, intsOf xs = some ns → xs = evs (ns.map .int)
  | [], ns, h => by cases h; rfl
  | x :: r, ns, h => by
    unfold intsOf at h
    split at h
    · rename_i e; cases e
    · rename_i i r' e
      cases e
      cases q : intsOf r with
      | none => rw [q] at h; cases h
      | some ms => rw [q] at h; cases h; rw [intsOf_evs q]; rfl
    · cases h
section
variable {X X' : Cx} {K : PySem.W.Frag} {T : List Addr} {P : Addr → Prop} {S1 : Store} {H1 : Hp} {m1 : Nat → Addr} {sc : Shared} {fp : List Addr} {a : Addr} {gg : Nat} {So : Option Csm} {tr0 : Tr}
theorem allZ (G : GexOf X X' sc H1 fp a gg) {A : Around} {R : Result → Shared → Prop} {b : Bool} {Sf : Store} (hh : A.handled = none) (hd : A.depth < recursionLimit)
    (hend : ∀ s' H' m', Core X K T P S1 H1 m1 sc fp a gg Sf H' m' s' → R (.ok (.ret (.bool b))) s') :
    ∀ (tr : Tr) (ys : List EV) (s : Shared), Cut tr0 ys tr → allT tr = some (b, Sf) → s.heap.NoLimit → s.heap.IsGen a gg → StandsZ X' K T P S1 H1 m1 none tr0 (model X.prog X.w) A.in1.in1 gg tr s →
      codeAny (model X.prog X.w) A (.builtin "all.loop" ⟨[.ref a], []⟩) R s := by
  intro tr
  induction tr with
  | bad => intro ys s cut ec; cases ec
  | done S' =>
    intro ys s cut ec hl hg st
    cases ec
    refine codeAny_builtin F.entry_all_loop ?_
    rw [Around.under_plainId F.plain_all_loop _]
    show wpAny _ A.in1 (pyNext (.ref a) >>= _) _ _ s
    refine wpAny_bind (next_Z (A := A.in1) G hh hd hl hg cut st (fun S' s' H' m' e co la => ?_) fun y S' r v s1 H' m' u e _ _ _ _ _ => by cases e)
    cases e
    exact wpAny_bind (wpAny_rule (wpAny_pure (hend s' H' m' co)))
  | yld y S' r ih =>
    intro ys s cut ec hl hg st
    refine codeAny_builtin F.entry_all_loop ?_
    rw [Around.under_plainId F.plain_all_loop _]
    show wpAny _ A.in1 (pyNext (.ref a) >>= _) _ _ s
    refine wpAny_bind (next_Z (A := A.in1) G hh hd hl hg cut st (fun S' s' H' m' e co la => by cases e) fun y' S'' r' v s1 H' m' u e co la rv ru hk => ?_)
    cases e
    rcases allT_yld ec with ⟨rfl, ec'⟩ | ⟨rfl, ec'⟩
    · obtain rfl := rp_bl ru
      have ev : v = .bool true := rv
      subst ev
      refine wpAny_bind (wpAny_holding (wpAny_truthy_bool ?_))
      refine wpAny_bind (wpAny_letGo ?_)
      simp only [if_true]
      refine wpAny_pure ⟨plainId_quiet F.plain_all_loop _, ih (ys ++ [.d (.bool true)]) s1 cut.snoc ec' co.lim co.gen (hk s1 (fun s' e1 e2 e3 => ⟨e2, e3, fun b o _ e => by rw [e1]; exact e, fun S e => by cases e⟩) rfl fun e => by rw [e] at ec'; cases ec')⟩
    · obtain rfl := rp_bl ru
      have ev : v = .bool false := rv
      subst ev
      cases ec'
      refine wpAny_bind (wpAny_holding (wpAny_truthy_bool ?_))
      refine wpAny_bind (wpAny_letGo ?_)
      simp only [Bool.false_eq_true, if_false]
      exact wpAny_bind (wpAny_rule (wpAny_pure (hend s1 H' m' co)))
theorem anyZ (G : GexOf X X' sc H1 fp a gg) {A : Around} {R : Result → Shared → Prop} {b : Bool} {Sf : Store} (hh : A.handled = none) (hd : A.depth < recursionLimit)
    (hend : ∀ s' H' m', Core X K T P S1 H1 m1 sc fp a gg Sf H' m' s' → R (.ok (.ret (.bool b))) s') :
    ∀ (tr : Tr) (ys : List EV) (s : Shared), Cut tr0 ys tr → anyT tr = some (b, Sf) → s.heap.NoLimit → s.heap.IsGen a gg → StandsZ X' K T P S1 H1 m1 none tr0 (model X.prog X.w) A.in1.in1 gg tr s →
      codeAny (model X.prog X.w) A (.builtin "any.loop" ⟨[.ref a], []⟩) R s := by
  intro tr
  induction tr with
  | bad => intro ys s cut ec; cases ec
  | done S' =>
    intro ys s cut ec hl hg st
    cases ec
    refine codeAny_builtin F.entry_any_loop ?_
    rw [Around.under_plainId F.plain_any_loop _]
    show wpAny _ A.in1 (pyNext (.ref a) >>= _) _ _ s
    refine wpAny_bind (next_Z (A := A.in1) G hh hd hl hg cut st (fun S' s' H' m' e co la => ?_) fun y S' r v s1 H' m' u e _ _ _ _ _ => by cases e)
    cases e
    exact wpAny_bind (wpAny_rule (wpAny_pure (hend s' H' m' co)))
  | yld y S' r ih =>
    intro ys s cut ec hl hg st
    refine codeAny_builtin F.entry_any_loop ?_
    rw [Around.under_plainId F.plain_any_loop _]
    show wpAny _ A.in1 (pyNext (.ref a) >>= _) _ _ s
    refine wpAny_bind (next_Z (A := A.in1) G hh hd hl hg cut st (fun S' s' H' m' e co la => by cases e) fun y' S'' r' v s1 H' m' u e co la rv ru hk => ?_)
    cases e
    rcases anyT_yld ec with ⟨rfl, ec'⟩ | ⟨rfl, ec'⟩
    · obtain rfl := rp_bl ru
      have ev : v = .bool false := rv
      subst ev
      refine wpAny_bind (wpAny_holding (wpAny_truthy_bool ?_))
      refine wpAny_bind (wpAny_letGo ?_)
      simp only [Bool.false_eq_true, if_false]
      refine wpAny_pure ⟨plainId_quiet F.plain_any_loop _, ih (ys ++ [.d (.bool false)]) s1 cut.snoc ec' co.lim co.gen (hk s1 (fun s' e1 e2 e3 => ⟨e2, e3, fun b o _ e => by rw [e1]; exact e, fun S e => by cases e⟩) rfl fun e => by rw [e] at ec'; cases ec')⟩
    · obtain rfl := rp_bl ru
      have ev : v = .bool true := rv
      subst ev
      cases ec'
      refine wpAny_bind (wpAny_holding (wpAny_truthy_bool ?_))
      refine wpAny_bind (wpAny_letGo ?_)
      simp only [if_true]
      exact wpAny_bind (wpAny_rule (wpAny_pure (hend s1 H' m' co)))
theorem sumZ (G : GexOf X X' sc H1 fp a gg) {A : Around} {R : Result → Shared → Prop} {S : Addr} {all : List Int} {Sf : Store} (hS : So = some ⟨S, true⟩) (hh : A.handled = none) (hd : A.depth < recursionLimit) (hSa : S ≠ a) (hSc : S ≠ cStatics)
    (hend : ∀ s' H' m' t, Core X K T P S1 H1 m1 sc fp a gg Sf H' m' s' → H' S = none → R (.ok (.ret (.int all.sum t))) s') :
    ∀ (tr : Tr) (ys : List EV) (rest pre : List Int) (s : Shared) (tA : Tok) (c : Nat) (st : Int), (st = 0 ∨ st = 2) → Cut tr0 ys tr → collT tr = some (evs (rest.map .int), Sf) → ys = evs (pre.map .int) → pre ++ rest = all → s.heap.get? S = some (lstObj #[.int pre.sum tA] c) → s.heap.NoLimit → s.heap.IsGen a gg →
      StandsZ X' K T P S1 H1 m1 So tr0 (model X.prog X.w) A.in1.in1 gg tr s → codeAny (model X.prog X.w) A (.builtin "sum.loop" ⟨[.ref a, .ref S, rawInt st, rawInt 0], []⟩) R s := by
  intro tr
  induction tr with
  | bad => intro ys rest pre s tA c st hst2 cut ec; cases ec
  | done S' =>
    intro ys rest pre s tA c st hst2 cut ec ey ea hS0 hl hg st
    have ec' : some (([] : List EV), S') = some (evs (rest.map .int), Sf) := ec
    cases rest with
    | cons _ _ => cases ec'
    | nil =>
      cases ec'
      rw [List.append_nil] at ea
      subst ea
      refine codeAny_builtin F.entry_sum_loop ?_
      rw [Around.under_plainId F.plain_sum_loop _]
      show wpAny _ A.in1 (seqItems? (.ref S) >>= _) _ _ s
      refine wpAny_bind (wpAny_seqItems hS0 rfl ?_)
      show wpAny _ A.in1 (tryCatch (pyNext (.ref a)) _ >>= _) _ _ s
      refine wpAny_bind (wpAny_tryCatch (next_Z (A := A.in1) G hh hd hl hg cut st (fun S' s' H' m' e co la => ?_) fun y S' r v s1 H' m' u e _ _ _ _ _ => by cases e))
      cases e
      obtain ⟨q1, _⟩ := la ⟨S, true⟩ hS
      exact wpAny_pure (hend s' H' m' tA co q1)
  | yld y S' r ih =>
    intro ys rest pre s tA c st hst2 cut ec ey ea hS0 hl hg st'
    have ec' : (collT r).map (fun p => (y :: p.1, p.2)) = some (evs (rest.map .int), Sf) := ec
    cases q : collT r with
    | none => rw [q] at ec'; cases ec'
    | some p =>
      rw [q] at ec'
      obtain ⟨p1, p2⟩ := p
      cases rest with
      | nil => cases ec'
      | cons i rest =>
        have h3 : y :: p1 = .d (.int i) :: evs (rest.map .int) ∧ p2 = Sf := by
          have h4 := Option.some.inj ec'
          exact ⟨congrArg Prod.fst h4, congrArg Prod.snd h4⟩
        obtain ⟨h4, rfl⟩ := h3
        obtain ⟨rfl, rfl⟩ := List.cons.inj h4
        refine codeAny_builtin F.entry_sum_loop ?_
        rw [Around.under_plainId F.plain_sum_loop _]
        show wpAny _ A.in1 (seqItems? (.ref S) >>= _) _ _ s
        refine wpAny_bind (wpAny_seqItems hS0 rfl ?_)
        show wpAny _ A.in1 (tryCatch (pyNext (.ref a)) _ >>= _) _ _ s
        refine wpAny_bind (wpAny_tryCatch (next_Z (A := A.in1) G hh hd hl hg cut st' (fun S' s' H' m' e co la => by cases e) fun y' S'' r' v s1 H' m' u e co la rv ru hk => ?_))
        cases e
        obtain rfl := rp_int ru
        obtain ⟨t, rfl⟩ : ∃ t, v = .int i t := rv
        obtain ⟨q1, acc, c1, q2, q3⟩ := la ⟨S, true⟩ hS
        obtain ⟨t1, rfl⟩ : ∃ t, acc = #[.int pre.sum t] := by rw [hS] at q3; exact q3 pre ey
        have eyn : ys ++ [.d (.int i)] = evs ((pre ++ [i]).map .int) := by rw [ey]; simp [evs]
        have ean : (pre ++ [i]) ++ rest = all := by rw [List.append_assoc]; exact ea
        have esn : pre.sum + i = (pre ++ [i]).sum := by simp
        have nb : r ≠ .bad := fun e => by rw [e] at q; cases q
        -- behind the writing
        have back : ∀ (h2 : Heap) (tk : Nat) (tB : Tok) (c2 : Nat) (st2 : Int), (st2 = 0 ∨ st2 = 2) → (∀ b o, S ≠ b → s1.heap.get? b = some o → h2.get? b = some o) → h2.get? S = some (lstObj #[.int (pre.sum + i) tB] c2) →
            codeAny (model X.prog X.w) A (.builtin "sum.loop" ⟨[.ref a, .ref S, rawInt st2, rawInt 0], []⟩) R { s1 with heap := h2, toks := tk } := by
          intro h2 tk tB c2 st2 hz keep3 own3
          refine ih (ys ++ [.d (.int i)]) rest (pre ++ [i]) _ tB c2 st2 hz cut.snoc q eyn ean (by rw [← esn]; exact own3) ?_ ?_ (hk { s1 with heap := h2, toks := tk } (fun s' e1 e2 e3 => ⟨e2, e3, fun b o nb e => ?_, fun S0 e0 acc' c' e => ?_⟩) rfl nb)
          · obtain ⟨mc, hns, hnn⟩ := co.lim
            exact ⟨mc, hns.at' fun o e => keep3 _ o hSc e, hnn⟩
          · obtain ⟨o, nm, qn, ho, r⟩ := co.gen
            exact ⟨o, nm, qn, keep3 a o hSa ho, r⟩
          · rw [e1]
            exact keep3 b o (nb ⟨S, true⟩ hS) e
          · rw [hS] at e0
            cases e0
            rw [q2] at e
            cases e
            rw [e1, hS]
            refine ⟨_, _, ?_, own3⟩
            intro n t2 j u e5 e6
            cases e6
            have e7 : n = pre.sum := by
              have := congrArg (fun x : Array Value => x[0]?) e5
              simp at this
              exact this.1.symm
            rw [e7]
            exact ⟨tB, rfl⟩
        rcases hst2 with rfl | rfl
        · show wpAny _ A.in1 (if (_ : Bool) = true then (mkInt (pre.sum + i) >>= _) else _) _ _ _
          split
          · refine wpAny_bind (wpAny_mkInt ?_)
            show wpAny _ A.in1 (updateSeq S (fun _ => #[.int (pre.sum + i) s1.toks]) >>= _) _ _ _
            refine wpAny_bind ?_
            refine wpAny_updateSeq q2 rfl (wpAny_pure ⟨plainId_quiet F.plain_sum_loop _, back _ _ _ _ 0 (.inl rfl) (fun b o hb e => ?_) (Heap.get?_update_self _ q2 rfl)⟩)
            exact (Heap.get?_update_other _ _ hb).trans e
          · refine wpAny_bind (wpAny_rule ?_)
            refine wpAny_bind (wpAny_attempt (wpAny_holding (wpAny_add_int ?_)))
            show wpAny _ A.in1 (updateSeq S (fun _ => #[.int (pre.sum + i) s1.toks]) >>= _) _ _ _
            refine wpAny_bind (wpAny_updateSeq q2 rfl ?_)
            have hS₂ := Heap.get?_update_self (Obj.mapSeq fun _ => #[Value.int (pre.sum + i) s1.toks]) q2 rfl
            refine wpAny_bind (wpAny_letGo ?_)
            refine wpAny_bind (wpAny_updateSeq hS₂ rfl (wpAny_pure ⟨plainId_quiet F.plain_sum_loop _, back _ _ _ _ 2 (.inr rfl) (fun b o hb e => ?_) (Heap.get?_update_self _ hS₂ rfl)⟩))
            exact (Heap.get?_update_other _ _ hb).trans ((Heap.get?_update_other _ _ hb).trans e)
        · show wpAny _ A.in1 ((holding [Value.int i t] (binaryOp .Add (.int pre.sum tA) (.int i t))).attempt >>= _) _ _ _
          refine wpAny_bind (wpAny_attempt (wpAny_holding (wpAny_add_int ?_)))
          show wpAny _ A.in1 (updateSeq S (fun _ => #[.int (pre.sum + i) s1.toks]) >>= _) _ _ _
          refine wpAny_bind (wpAny_updateSeq q2 rfl ?_)
          have hS₂ := Heap.get?_update_self (Obj.mapSeq fun _ => #[Value.int (pre.sum + i) s1.toks]) q2 rfl
          refine wpAny_bind (wpAny_letGo ?_)
          refine wpAny_bind (wpAny_updateSeq hS₂ rfl (wpAny_pure ⟨plainId_quiet F.plain_sum_loop _, back _ _ _ _ 2 (.inr rfl) (fun b o hb e => ?_) (Heap.get?_update_self _ hS₂ rfl)⟩))
          exact (Heap.get?_update_other _ _ hb).trans ((Heap.get?_update_other _ _ hb).trans e)
end
section
variable {X : Cx} {K : PySem.W.Frag} {T : List Addr} {P : Addr → Prop} {k : Nat} {pins : List (Addr × Obj)} {σ : L2.St} {S1 : Store} {H1 : Hp} {m1 : Nat → Addr} {tr0 : Tr} {u : Value} {s : Shared}
theorem call_all_Z {A : Around} {Q : Value → Shared → Prop} {E : Value → Shared → Prop} {b : Bool} {Sf : Store} (hr : Room (k + 3) A) (hfr : A.frames = some X.stack) (h : GMd X K T P k pins σ S1 H1 m1 tr0 u s) (hc : allT tr0 = some (b, Sf))
    (hQ : ∀ s' H' m', To P S1 H1 m1 Sf H' m' → Wd K P Sf H' m' T → Inv X pins σ H' s' → Q (.bool b) s') : wpAny (model X.prog X.w) A (call (.builtin "all") [u]) Q E s := by
  obtain ⟨sc, a, gg, c, fp, rfl, I, hex, ha1, ha2, hg, hgs, hos, hb, hl, hkp, hfp, wake⟩ := h
  refine call_function_tree F.kind_all F.plain_all F.entry_all (F.args_all1 _) ?_
  unfold Builtin.«all»
  refine wpAny_bind (m := oneArg "all" _) (wpAny_pure ?_)
  refine wpAny_bind (wpAny_pyIter_gen hg ?_)
  have hrA : Room (k + 1) A.in1.in1 := (Room.in1 (Room.in1 hr))
  obtain ⟨X', G, seg⟩ := wake A.in1.in1 none (s.setGen gg .running) hrA hfr (fun S e => by cases e) (fun _ _ e => e) rfl (allBare_setGen hb rfl) (fun e => by rw [e] at hc; cases hc)
  refine wpAny_pure ⟨plainId_quiet F.plain_all_loop _, allZ (A := A) G (tr0 := tr0) hr.hd (by have := hr.dp; show A.depth < _; omega) (fun s' H' m' co => ?_) tr0 [] s (.refl _) hc hl hg ⟨_, hgs, rfl, seg⟩⟩
  exact hQ s' H' m' co.to co.wd (I.call' (ch := fp) co.os co.un co.hok co.bare hex)
theorem call_any_Z {A : Around} {Q : Value → Shared → Prop} {E : Value → Shared → Prop} {b : Bool} {Sf : Store} (hr : Room (k + 3) A) (hfr : A.frames = some X.stack) (h : GMd X K T P k pins σ S1 H1 m1 tr0 u s) (hc : anyT tr0 = some (b, Sf))
    (hQ : ∀ s' H' m', To P S1 H1 m1 Sf H' m' → Wd K P Sf H' m' T → Inv X pins σ H' s' → Q (.bool b) s') : wpAny (model X.prog X.w) A (call (.builtin "any") [u]) Q E s := by
  obtain ⟨sc, a, gg, c, fp, rfl, I, hex, ha1, ha2, hg, hgs, hos, hb, hl, hkp, hfp, wake⟩ := h
  refine call_function_tree F.kind_any F.plain_any F.entry_any (F.args_any1 _) ?_
  unfold Builtin.«any»
  refine wpAny_bind (m := oneArg "any" _) (wpAny_pure ?_)
  refine wpAny_bind (wpAny_pyIter_gen hg ?_)
  have hrA : Room (k + 1) A.in1.in1 := (Room.in1 (Room.in1 hr))
  obtain ⟨X', G, seg⟩ := wake A.in1.in1 none (s.setGen gg .running) hrA hfr (fun S e => by cases e) (fun _ _ e => e) rfl (allBare_setGen hb rfl) (fun e => by rw [e] at hc; cases hc)
  refine wpAny_pure ⟨plainId_quiet F.plain_any_loop _, anyZ (A := A) G (tr0 := tr0) hr.hd (by have := hr.dp; show A.depth < _; omega) (fun s' H' m' co => ?_) tr0 [] s (.refl _) hc hl hg ⟨_, hgs, rfl, seg⟩⟩
  exact hQ s' H' m' co.to co.wd (I.call' (ch := fp) co.os co.un co.hok co.bare hex)
theorem call_sum_Z {A : Around} {Q : Value → Shared → Prop} {E : Value → Shared → Prop} {all : List Int} {Sf : Store} (hr : Room (k + 3) A) (hfr : A.frames = some X.stack) (h : GMd X K T P k pins σ S1 H1 m1 tr0 u s) (hc : collT tr0 = some (evs (all.map .int), Sf))
    (hQ : ∀ s' H' m' t, To P S1 H1 m1 Sf H' m' → Wd K P Sf H' m' T → Inv X pins σ H' s' → Q (.int all.sum t) s') : wpAny (model X.prog X.w) A (call (.builtin "sum") [u]) Q E s := by
  obtain ⟨sc, a, gg, c, fp, rfl, I, hex, ha1, ha2, hg, hgs, hos, hb, hl, hkp, hfp, wake⟩ := h
  have hSa : s.heap.objs.size ≠ a := Nat.ne_of_gt ha2
  have hcl : cStatics < s.heap.objs.size := let ⟨_, hn, _⟩ := hl; hn.lt
  have hSc : s.heap.objs.size ≠ cStatics := Nat.ne_of_gt hcl
  refine call_function_tree F.kind_sum F.plain_sum F.entry_sum (F.args_sum1 _) ?_
  unfold Builtin.«sum»
  simp only [List.length_cons, List.length_nil]
  rw [if_neg (by decide)]
  refine wpAny_bind (wpAny_of_eq (show Builtin.Builtins.bindParams "sum" ["start"] 0 { } = pure [none] from rfl) ?_)
  refine wpAny_bind (wpAny_pyIter_gen hg ?_)
  refine wpAny_bind (wpAny_mkInt ?_)
  refine wpAny_bind (wpAny_pure ?_)
  simp only [List.forIn_cons, List.forIn_nil]
  refine wpAny_bind (wpAny_bind (wpAny_bind (wpAny_isInstance (T := "int") (b := false) (typeIs_int _ _ _) PySem.sub_int_str ?_)))
  simp only [Bool.false_eq_true, if_false]
  refine wpAny_pure (wpAny_bind (wpAny_bind (wpAny_isInstance (T := "int") (b := false) (typeIs_int _ _ _) PySem.sub_int_bytes ?_)))
  simp only [Bool.false_eq_true, if_false]
  refine wpAny_pure (wpAny_bind (wpAny_bind (wpAny_isInstance (T := "int") (b := false) (typeIs_int _ _ _) PySem.sub_int_bytearray ?_)))
  simp only [Bool.false_eq_true, if_false]
  refine wpAny_pure (wpAny_pure ?_)
  refine wpAny_bind (wpAny_newObj_type ?_)
  have hrA : Room (k + 1) A.in1.in1 := (Room.in1 (Room.in1 hr))
  have hS3 : (s.heap.push { cls := .type "list", data := .seq #[Value.int 0 s.toks] }).get? s.heap.objs.size = some { cls := .type "list", data := .seq #[Value.int 0 s.toks] } := Heap.get?_push_size _ rfl
  have k3 : ∀ b o, s.heap.get? b = some o → (s.heap.push { cls := .type "list", data := .seq #[Value.int 0 s.toks] }).get? b = some o := fun b o e => Heap.get?_push_of_some _ e
  obtain ⟨X', G, seg⟩ := wake A.in1.in1 (some ⟨s.heap.objs.size, true⟩) (Shared.setGen { s with heap := s.heap.push { cls := .type "list", data := .seq #[Value.int 0 s.toks] }, toks := s.toks + 1 } gg .running) hrA hfr
    (fun S e => by cases e; exact ⟨Nat.le_refl _, _, _, hS3, (fun z => by cases z), fun _ => ⟨_, rfl⟩⟩) k3 rfl (allBare_setGen (s := { s with heap := _, toks := _ }) hb rfl) (fun e => by rw [e] at hc; cases hc)
  refine wpAny_pure ⟨plainId_quiet F.plain_sum_loop _, sumZ (A := A) G (So := some ⟨s.heap.objs.size, true⟩) (tr0 := tr0) rfl hr.hd (by have := hr.dp; show A.depth < _; omega) hSa hSc (fun s' H' m' t co hn => ?_) tr0 [] all [] _ s.toks _ 0 (.inl rfl) (.refl _) hc rfl rfl hS3 (hl.keeps k3) (hg.keeps k3) ⟨_, hgs, rfl, seg⟩⟩
  exact hQ s' H' m' t co.to co.wd (I.call' (ch := fp) co.os co.un co.hok co.bare hex)
end
section
variable {ι : Type} {X : ι → Cx} {K : PySem.W.Frag} {T : List Addr} {W : WX} {N : List Str}
def boolR (o : Option (Bool × Store)) : Res EV := match o with
  | some (b, S) => .ok (.d (.bool b)) S
  | none => .bad
def allF (f : IF) (g : GF) (tf : BF) (ef : EF) (vs : List Nat) : EF := fun ρ S => (f ρ S).bind fun its S1 => boolR (allT (genT g tf ef (wipeR ρ vs) its S1))
def anyF (f : IF) (g : GF) (tf : BF) (ef : EF) (vs : List Nat) : EF := fun ρ S => (f ρ S).bind fun its S1 => boolR (anyT (genT g tf ef (wipeR ρ vs) its S1))
def mkSum (xs : List EV) (S : Store) : Res EV := match intsOf xs with
  | some ns => .ok (.d (.int ns.sum)) S
  | none => .bad
theorem de_allG {k : Nat} {p pos : Pos} {e : Expr} {f : IF} {g : GF} {tf : BF} {ef : EF} {vs : List Nat} (G : GenD X K T W N k e f g tf ef vs) (hr : ∀ i, Room (k + 3) (X i).A) (hm : ∀ i, (X i).mg "all" = none) (hg : ∀ i, Gl (X i) "all" := by intro _; rfl)
    (he : ∀ i, starEach [e] (X i).env = (false, eval e (X i).env) :: starEach [] (X i).env := by intro _; rfl) : DE X K T W (.Call (.Name "all" p) [e] [] pos) (allF f g tf ef vs) := by
  refine de_tZ fun i => ⟨fun pins s σ H Q I hq => ?_⟩
  obtain ⟨P, ρ, S, m, w, er, h⟩ := hq
  refine wpAny_Call_Name_kw (ld_blt I (hg i) (hm i) (by decide +kernel : bootBuiltins "all" = some (.builtin "all")) ?_)
  refine PyProof.Rows.callWith_builtin1 ?_ (he i) (by rfl)
  rw [he i]
  show wpAny _ _ (spliced ((false, eval e (X i).env) :: backTo pos (starEach [] (X i).env))) _ _ s
  refine Calls.spliced_cons (G.run i I w er h fun S1 H1 m1 its u s1 t1 w1 h1 hG => ?_)
  refine Calls.spliced_nil ?_
  unfold boolR at h1
  split at h1
  · rename_i b Sf q
    exact call_all_Z (hr i) (by obtain ⟨sc, _, _, _, _, _, I1, _⟩ := hG; exact I1.ok.frames) hG q fun s' H' m' t w2 J => ⟨.bl b, H', J, rfl, h1 H' m' _ t w2 (Dq.bl b)⟩
  · exact h1.elim
theorem de_anyG {k : Nat} {p pos : Pos} {e : Expr} {f : IF} {g : GF} {tf : BF} {ef : EF} {vs : List Nat} (G : GenD X K T W N k e f g tf ef vs) (hr : ∀ i, Room (k + 3) (X i).A) (hm : ∀ i, (X i).mg "any" = none) (hg : ∀ i, Gl (X i) "any" := by intro _; rfl)
    (he : ∀ i, starEach [e] (X i).env = (false, eval e (X i).env) :: starEach [] (X i).env := by intro _; rfl) : DE X K T W (.Call (.Name "any" p) [e] [] pos) (anyF f g tf ef vs) := by
  refine de_tZ fun i => ⟨fun pins s σ H Q I hq => ?_⟩
  obtain ⟨P, ρ, S, m, w, er, h⟩ := hq
  refine wpAny_Call_Name_kw (ld_blt I (hg i) (hm i) (by decide +kernel : bootBuiltins "any" = some (.builtin "any")) ?_)
  refine PyProof.Rows.callWith_builtin1 ?_ (he i) (by rfl)
  rw [he i]
  show wpAny _ _ (spliced ((false, eval e (X i).env) :: backTo pos (starEach [] (X i).env))) _ _ s
  refine Calls.spliced_cons (G.run i I w er h fun S1 H1 m1 its u s1 t1 w1 h1 hG => ?_)
  refine Calls.spliced_nil ?_
  unfold boolR at h1
  split at h1
  · rename_i b Sf q
    exact call_any_Z (hr i) (by obtain ⟨sc, _, _, _, _, _, I1, _⟩ := hG; exact I1.ok.frames) hG q fun s' H' m' t w2 J => ⟨.bl b, H', J, rfl, h1 H' m' _ t w2 (Dq.bl b)⟩
  · exact h1.elim
theorem de_sumG {k : Nat} {p pos : Pos} {e : Expr} {f : IF} {g : GF} {tf : BF} {ef : EF} {vs : List Nat} (G : GenD X K T W N k e f g tf ef vs) (hr : ∀ i, Room (k + 3) (X i).A) (hm : ∀ i, (X i).mg "sum" = none) (hg : ∀ i, Gl (X i) "sum" := by intro _; rfl)
    (he : ∀ i, starEach [e] (X i).env = (false, eval e (X i).env) :: starEach [] (X i).env := by intro _; rfl) : DE X K T W (.Call (.Name "sum" p) [e] [] pos) (collF mkSum f g tf ef vs) := by
  refine de_tZ fun i => ⟨fun pins s σ H Q I hq => ?_⟩
  obtain ⟨P, ρ, S, m, w, er, h⟩ := hq
  refine wpAny_Call_Name_kw (ld_blt I (hg i) (hm i) (by decide +kernel : bootBuiltins "sum" = some (.builtin "sum")) ?_)
  refine PyProof.Rows.callWith_builtin1 ?_ (he i) (by rfl)
  rw [he i]
  show wpAny _ _ (spliced ((false, eval e (X i).env) :: backTo pos (starEach [] (X i).env))) _ _ s
  refine Calls.spliced_cons (G.run i I w er h fun S1 H1 m1 its u s1 t1 w1 h1 hG => ?_)
  refine Calls.spliced_nil ?_
  unfold mkColl at h1
  split at h1
  · rename_i ys Sf q
    unfold mkSum at h1
    split at h1
    · rename_i ns qn
      rw [intsOf_evs qn] at q
      exact call_sum_Z (hr i) (by obtain ⟨sc, _, _, _, _, _, I1, _⟩ := hG; exact I1.ok.frames) hG q fun s' H' m' t t2 w2 J => ⟨.int ns.sum, H', J, ⟨t, rfl⟩, h1 H' m' _ t2 w2 (Dq.int _)⟩
    · exact h1.elim
  · exact h1.elim
end
end Z
set_option maxRecDepth 100000
set_option maxHeartbeats 4000000
/-! Z23: a list of lists, all of which changed, is handed out for good. -/
namespace Z
open PySem PySem.Spec PyProof.Rows L2
def frzL : List EV → Store → Option (List PyData × Store)
  | [], S => some ([], S)
  | .d x :: r, S => (frzL r S).map fun p => (x :: p.1, p.2)
  | .own n :: r, S => match S[n]? with
    | some (.lst xs) => match datas xs with
      | some ds => (frzL r (S.set n .gone)).map fun p => (.list ds :: p.1, p.2)
      | none => none
    | _ => none
  | .scr _ :: _, _ => none
section
variable {K : PySem.W.Frag} {T : List Addr} {P : Addr → Prop} {H : Hp} {m : Nat → Addr}
theorem frzL_H : ∀ {xs : List EV} {S S' : Store} {vs : List V} {ds : List PyData}, Wd K P S H m T → RpL K P S H m vs xs → frzL xs S = some (ds, S') → Wd K P S' H m T ∧ To P S H m S' H m ∧ DqAll H (LP P S' m) vs ds
  | [], S, S', vs, ds, w, r, e => by
    cases e; cases r
    exact ⟨w, To.refl, .nil⟩
  | .d x :: xs, S, S', vs, ds, w, r, e => by
    have e' : (frzL xs S).map (fun p => (x :: p.1, p.2)) = some (ds, S') := e
    cases q : frzL xs S with
    | none => rw [q] at e'; cases e'
    | some p =>
      rw [q] at e'
      obtain ⟨p1, p2⟩ := p
      cases e'
      cases r with
      | cons r1 r2 =>
        obtain ⟨w2, t2, d2⟩ := frzL_H w r2 q
        exact ⟨w2, t2, .cons (t2.dq r1) d2⟩
  | .own n :: xs, S, S', vs, ds, w, r, e => by
    unfold frzL at e
    split at e
    · rename_i ys qs
      split at e
      · rename_i es qd
        obtain rfl := evs_of qd
        have ng : (SO.lst (evs es)) ≠ .gone := fun z => by cases z
        cases q : frzL xs (S.set n .gone) with
        | none => rw [q] at e; cases e
        | some p =>
          rw [q] at e
          obtain ⟨p1, p2⟩ := p
          cases e
          cases r with
          | cons r1 r2 =>
            have t1 : To P S H m (S.set n .gone) H m := To.freeze qs ng
            obtain ⟨w2, t2, d2⟩ := frzL_H (w.freeze qs ng) (t1.rpL r2) q
            obtain ⟨rfl, _⟩ := r1
            exact ⟨w2, t1.trans t2, .cons (t2.dq (w.frozen qs)) d2⟩
      · cases e
    · cases e
  | .scr _ :: _, _, _, _, _, _, _, e => by cases e
theorem Wd.frozenV {S : Store} {vs : List V} {n : Nat} {xs : List EV} {ds : List PyData} (w : Wd K P S H m T) (h : S[n]? = some (.lst xs)) (e : H (m n) = some (.lst vs)) (r : DqAll H (LP P S m) vs ds) : Dq H (LP P (S.set n .gone) m) (.ref (m n)) (.list ds) := by
  refine .lst e (fun z => ?_) ?_
  · rcases z with z | ⟨k, o, h1, h2, h3⟩
    · exact (w.prv _ z).2 ⟨n, _, h, (fun z => by cases z), rfl⟩
    · by_cases q : n = k
      · subst q
        rw [List.getElem?_set_self (List.getElem?_eq_some_iff.mp h).1] at h1
        cases h1
        exact h2 rfl
      · rw [List.getElem?_set_ne q] at h1
        exact q (w.inj k n o _ h1 h h2 (fun z => by cases z) h3).symm
  · exact (To.freeze h (fun z => by cases z)).dqAll r
end
def frzDV : EV → Store → Res EV := fun x S => match x with
  | .own n => match S[n]? with
    | some (.lst xs) => match frzL xs S with
      | some (ds, S1) => match S1[n]? with
        | some (.lst _) => .ok (.d (.list ds)) (S1.set n .gone)
        | _ => .bad
      | none => .bad
    | _ => .bad
  | _ => .bad
def frzDE (f : EF) : EF := fun ρ S => (f ρ S).bind frzDV
section
variable {ι : Type} {X : ι → Cx} {K : PySem.W.Frag} {T : List Addr} {W : WX} {N : List Str} {e : Expr} {f : EF}
theorem de_frzD (he : DE X K T W e f) : DE X K T W e (frzDE f) := by
  obtain ⟨t, pt, ht⟩ := he.ex
  refine ⟨t, pt, fun P ρ S H m σ Q w er h => ?_⟩
  refine ht P ρ S H m σ _ w er (Post.step h fun S1 H1 m1 v x t1 w1 r1 h1 => ?_)
  unfold frzDV at h1
  split at h1
  · rename_i n
    split at h1
    · rename_i xs qs
      split at h1
      · rename_i ds S2 q2
        split at h1
        · rename_i ys q3
          obtain ⟨rfl, _⟩ := r1
          obtain ⟨vs, e1, rl⟩ := w1.ok n _ qs
          obtain ⟨w2, t2, d2⟩ := frzL_H w1 rl q2
          have ng : (SO.lst ys) ≠ .gone := fun z => by cases z
          exact h1 H1 m1 _ (t2.trans (To.freeze q3 ng)) (w2.freeze q3 ng) (w2.frozenV q3 e1 d2)
        · exact h1.elim
      · exact h1.elim
    · exact h1.elim
  · exact h1.elim
@[simp] theorem e_frzDE {ρ : Rho} {S : Store} : frzDE f ρ S = (f ρ S).bind frzDV := (rfl)
end
end Z
set_option maxRecDepth 100000
set_option maxHeartbeats 4000000
/-! Z24: sorted of ints and of texts, lists or tuples; min, max of two. -/
namespace PyProof.Rows
open PySem
section
variable {prog : Program} {w : World} {A : Around} {E : Value → Shared → Prop} {s : Shared}
theorem z_collect_tuple {l : Addr} {vs : List Value} {Q : List Value → Shared → Prop} (hl : s.heap.IsTuple l vs.toArray)
    (h : Q vs { s with heap := (s.heap.push (seqObj "list" #[] 0)).update s.heap.objs.size (Obj.mapSeq (· ++ vs.toArray)) }) (hsz : vs.length ≤ sizeLine) :
    wpAny (model prog w) A (collect (.ref l)) Q E s := by
  obtain ⟨o, ho, hc, n, hd⟩ := id hl
  unfold collect
  refine wpAny_bind (wpAny_runValue (codeAny_builtin F.entry_proto_collect ?_))
  rw [Around.under_plainId F.plain_proto_collect _]
  show wpAny _ _ (do again (.builtin "list.__iadd__" ⟨[← newList [], .ref l], []⟩)) _ _ s
  refine wpAny_bind (wpAny_newList (wpAny_pure ⟨plainId_quiet F.plain_list_iadd _, codeAny_builtin F.entry_list_iadd ?_⟩) (Nat.zero_le _))
  rw [Around.under_plainId F.plain_list_iadd _]
  show wpAny _ _ (Builtin.List.listExtendWith (.ref s.heap.objs.size) (.ref l) (.ref s.heap.objs.size)) _ _ { s with heap := s.heap.push (seqObj "list" #[] 0) }
  unfold Builtin.List.listExtendWith
  have ho' : (s.heap.push (seqObj "list" #[] 0)).get? l = some o := Heap.get?_push_of_some _ ho
  refine wpAny_bind (wpAny_typeOf (T := "tuple") ⟨o, ho', hc⟩ ?_)
  have ht : (Value.type "tuple" == Value.type "tuple") = true := by rfl
  rw [if_pos (by rw [ht]; simp)]
  refine wpAny_bind (listItems_at ho' hd ?_)
  refine wpAny_bind (listItems_at (xs := #[]) (n := 0) (Heap.get?_push_size _ rfl) rfl ?_)
  rw [if_neg (by simp)]
  refine wpAny_bind (listUpdate_at (xs := #[]) (n := 0) (Heap.get?_push_size _ rfl) rfl ?_ (Nat.zero_le _) (by show (#[] ++ vs.toArray).size ≤ sizeLine + 1; simp only [Array.size_append, List.size_toArray, List.length_nil]; omega))
  refine wpAny_pure ?_
  show wpAny (model prog w) A (do
      let o ← load s.heap.objs.size
      match o.data with
      | .seq xs _ => pure xs.toList
      | _ => unsupported "internal:collect") Q E { s with heap := (s.heap.push (seqObj "list" #[] 0)).update s.heap.objs.size (Obj.mapSeq (· ++ vs.toArray)) }
  refine wpAny_bind (wpAny_load (get?_update_seq (Heap.get?_push_size _ rfl) _) ?_)
  show wpAny _ _ (pure ((#[] : Array Value) ++ vs.toArray).toList) Q E _
  rw [show ((#[] : Array Value) ++ vs.toArray).toList = vs by simp]
  exact wpAny_pure h
end
end PyProof.Rows
namespace SrtO
open PySem PyProof.Rows Srt
section
variable {prog : Program} {w : World} {A : Around} {E : Value → Shared → Prop} {s : Shared}
theorem z_sorted_tuple {l : Addr} {vs : List Value} {ltv : Value → Value → Bool} {Q : Value → Shared → Prop} (O : Swo ltv) (hl : s.heap.IsTuple l vs.toArray) (hz : vs.length ≤ sizeLine)
    (hS : 2 ≤ vs.length → ∀ (h₁ : Heap) (a : Addr), h₁.get? a = some (seqObj "list" vs.toArray 0) → (∀ b o, s.heap.get? b = some o → b ≠ a ∧ h₁.get? b = some o) → SortableO prog w A.in1.in1 { s with heap := h₁ } a vs ltv)
    (h : ∀ out : List Value, Srtd ltv out → Stb ltv out vs → Q (.ref (s.heap.objs.size + 1)) { s with heap := sortedAll s.heap vs out.toArray }) :
    wpAny (model prog w) A (call (.builtin "sorted") [.ref l]) Q E s := by
  refine Calls.call_function_entry kind_sorted plain_sorted entry_sorted (args_sorted1 _) ?_
  unfold Builtin.«sorted»
  refine wpAny_bind (m := checkCount "sorted" 1 1 _) (wpAny_pure ?_)
  refine wpAny_bind (z_collect_tuple hl ?_ hz)
  refine wpAny_bind (wpAny_newList ?_ hz)
  have hsz : ((s.heap.push (seqObj "list" #[] 0)).update s.heap.objs.size (Obj.mapSeq (· ++ vs.toArray))).objs.size = s.heap.objs.size + 1 := by
    rw [Heap.size_update, size_push']
  have hoL : (((s.heap.push (seqObj "list" #[] 0)).update s.heap.objs.size (Obj.mapSeq (· ++ vs.toArray))).push (seqObj "list" vs.toArray 0)).get? (s.heap.objs.size + 1) = some (seqObj "list" vs.toArray 0) := by
    rw [← hsz]; exact Heap.get?_push_size _ rfl
  have keep : ∀ b o, s.heap.get? b = some o → b ≠ s.heap.objs.size + 1 ∧ (((s.heap.push (seqObj "list" #[] 0)).update s.heap.objs.size (Obj.mapSeq (· ++ vs.toArray))).push (seqObj "list" vs.toArray 0)).get? b = some o := fun b o q => by
    have hlt : b < s.heap.objs.size := Heap.lt_size q
    refine ⟨Nat.ne_of_lt (Nat.lt_succ_of_lt hlt), Heap.get?_push_of_some _ ?_⟩
    rw [Heap.get?_update_ne _ _ _ _ (Nat.ne_of_lt hlt)]
    exact Heap.get?_push_of_some _ q
  show wpAny _ _ _ _ _ { s with heap := ((s.heap.push (seqObj "list" #[] 0)).update s.heap.objs.size (Obj.mapSeq (· ++ vs.toArray))).push (seqObj "list" vs.toArray 0) }
  rw [hsz]
  refine wpAny_bind (wpAny_holding (wpAny_call_entry slot_list_sort ⟨_, hoL, rfl⟩ entry_list_sort (list_sort_ord O hoL hz (fun h2 => hS h2 _ _ hoL keep) fun out hs hb => ⟨_, rfl, ?_⟩) (args_list_sort _)))
  exact wpAny_pure ⟨_, rfl, h out hs hb⟩
/-! ### texts -/
def sv : Value → List Nat
  | .str x _ => x.cps.toList
  | _ => []
def ltSv (v u : Value) : Bool := decide (sv v < sv u)
theorem swo_str : Swo ltSv := by
  refine ⟨fun x y h => ?_, fun x y z h1 h2 => ?_⟩
  · have a := of_decide_eq_true (p := sv x < sv y) h
    exact decide_eq_false (p := sv y < sv x) fun b => List.lt_asymm a b
  · have a : ¬ (sv y < sv x) := of_decide_eq_false (p := sv y < sv x) h1
    have b : ¬ (sv z < sv y) := of_decide_eq_false (p := sv z < sv y) h2
    exact decide_eq_false (p := sv z < sv x) (List.not_lt.mpr (List.le_trans (List.not_lt.mp a) (List.not_lt.mp b)))
theorem strs_mem : ∀ {vs : List Value} {ns : List PySem.Str}, StrsAre vs ns → ∀ v ∈ vs, ∃ i t, v = Value.str i t
  | _, _, .nil, v, h => absurd h (by simp)
  | _, _, .cons n t r, v, h => by
    rcases List.mem_cons.mp h with e | h
    · exact ⟨n, t, e⟩
    · exact strs_mem r v h
def ss : Value → PySem.Str
  | .str x _ => x
  | _ => PySem.Str.empty
theorem strs_ss : ∀ {vs : List Value}, (∀ v ∈ vs, ∃ i t, v = Value.str i t) → StrsAre vs (vs.map ss)
  | [], _ => .nil
  | v :: vs, h => by
    obtain ⟨i, t, e⟩ := h v List.mem_cons_self
    subst e
    exact .cons i t (strs_ss fun u hu => h u (List.mem_cons_of_mem _ hu))
theorem ss_strs : ∀ {vs : List Value} {ns : List PySem.Str}, StrsAre vs ns → vs.map ss = ns
  | _, _, .nil => rfl
  | _, _, .cons n t r => congrArg (n :: ·) (ss_strs r)
theorem str_cmp {vs : List Value} {ns : List PySem.Str} (hI : StrsAre vs ns) : Cmp prog w A s oneType' (fun p => p.1 ∈ vs) (lt2 ltSv) := by
  intro p q hm hm'
  obtain ⟨a, t, e⟩ := strs_mem hI _ hm
  obtain ⟨b, u, e'⟩ := strs_mem hI _ hm'
  show wpAny (model prog w) A (keyLt' oneType' p.1 q.1) (fun r s' => s' = s ∧ r = ltSv p.1 q.1) (fun _ _ => False) s
  rw [e, e', keyLt'_oneType]
  exact oneLt_str ⟨rfl, rfl⟩
theorem strs_sortable {a : Addr} {vs : List Value} {ns : List PySem.Str} (hI : StrsAre vs ns) (h2 : 2 ≤ vs.length) : SortableO prog w A s a vs ltSv := by
  intro h' _
  refine ⟨oneType', fun Q E hq => ?_, str_cmp hI⟩
  match vs, hI, h2 with
  | v1 :: v2 :: rest, hI, _ =>
    rw [keyKind_strs hI]
    exact wpAny_pure hq
  | [], _, h => exact absurd h (by decide)
  | [v], _, h => exact absurd h (by simp)
theorem strs_out {vs out : List Value} {ns : List PySem.Str} (hI : StrsAre vs ns) (hs : Srtd ltSv out) (hb : Stb ltSv out vs) : StrsAre out (out.map ss) ∧ (out.map ss).Perm ns ∧ (out.map ss).Pairwise (fun a b : PySem.Str => a.cps.toList ≤ b.cps.toList) := by
  have hm : ∀ v ∈ out, ∃ i t, v = Value.str i t := fun v hv => strs_mem hI v (hb.perm.mem_iff.mp hv)
  refine ⟨strs_ss hm, ?_, ?_⟩
  · have q := hb.perm.map ss
    rw [ss_strs hI] at q
    exact q
  · refine List.pairwise_map.mpr ((List.Pairwise.and_mem.mp hs).imp fun {x y} h => ?_)
    obtain ⟨hx, hy, h⟩ := h
    have e : ¬ sv y < sv x := of_decide_eq_false (p := sv y < sv x) h
    obtain ⟨i, t, rfl⟩ := hm x hx
    obtain ⟨j, u, rfl⟩ := hm y hy
    exact List.not_lt.mp e
end
end SrtO
namespace Z
open PySem PySem.Spec PyProof.Rows L2
def sortI (ns : List Int) : List Int := ns.mergeSort fun a b => decide (a ≤ b)
def leS (a b : Str) : Bool := decide (a.cps.toList ≤ b.cps.toList)
def sortS (zs : List Str) : List Str := zs.mergeSort leS
theorem sortI_perm (ns : List Int) : (sortI ns).Perm ns := List.mergeSort_perm ns _
theorem sortI_le (ns : List Int) : (sortI ns).Pairwise (· ≤ ·) := by
  have := List.pairwise_mergeSort (le := fun a b : Int => decide (a ≤ b)) (fun a b c h1 h2 => by simp at *; omega) (fun a b => by simp; omega) ns
  exact this.imp fun h => by simpa using h
theorem sortS_perm (ns : List Str) : (sortS ns).Perm ns := List.mergeSort_perm ns _
theorem leS_trans (a b c : Str) (h1 : leS a b = true) (h2 : leS b c = true) : leS a c = true := by
  simp only [leS, decide_eq_true_eq] at *
  exact List.le_trans h1 h2
theorem leS_total (a b : Str) : (leS a b || leS b a) = true := by
  simp only [leS, Bool.or_eq_true, decide_eq_true_eq]
  exact List.le_total _ _
theorem sortS_le (ns : List Str) : (sortS ns).Pairwise (fun a b => a.cps.toList ≤ b.cps.toList) :=
  (List.pairwise_mergeSort leS_trans leS_total ns).imp fun h => by simpa [leS] using h
theorem sorted_uniq {α : Type} {r : α → α → Prop} (anti : ∀ a b, r a b → r b a → a = b) : ∀ {l m : List α}, l.Pairwise r → m.Pairwise r → l.Perm m → l = m := by
  intro l m h1 h2 p
  exact p.eq_of_pairwise (fun a b _ _ => anti a b) h1 h2
theorem sortI_eq {ns ms : List Int} (h : ms.Perm ns) (q : ms.Pairwise (· ≤ ·)) : ms = sortI ns := sorted_uniq (fun a b h1 h2 => Int.le_antisymm h1 h2) q (sortI_le ns) (h.trans (sortI_perm ns).symm)
theorem sortS_eq {ns ms : List Str} (h : ms.Perm ns) (q : ms.Pairwise (fun a b => a.cps.toList ≤ b.cps.toList)) : ms = sortS ns :=
  sorted_uniq (fun a b h1 h2 => str_ext (List.le_antisymm h1 h2)) q (sortS_le ns) (h.trans (sortS_perm ns).symm)
def srtOut (ys : List EV) (S : Store) : Res EV := match intsOf ys with
  | some ns => if ns.length ≤ sizeLine then .ok (.d (.list ((sortI ns).map .int))) S else .bad
  | none => match datas ys with
    | some ds => match strsOf ds with
      | some zs => if zs.length ≤ sizeLine then .ok (.d (.list ((sortS zs).map .str))) S else .bad
      | none => .bad
    | none => .bad
def gSorted : List EV → Store → Res EV := fun xs S => match xs with
  | [x] => match itemsLS S x with
    | some ys => srtOut ys S
    | none => match itemsT x with
      | some ys => srtOut ys S
      | none => .bad
  | _ => .bad
section
variable {H : Hp} {L : Addr → Prop}
theorem dqInts : ∀ ns : List Int, DqAll H L (ns.map V.int) (ns.map .int)
  | [] => .nil
  | n :: ns => .cons (Dq.int n) (dqInts ns)
theorem dqStrs : ∀ ns : List Str, DqAll H L (ns.map V.str) (ns.map .str)
  | [] => .nil
  | n :: ns => .cons (Dq.str n) (dqStrs ns)
end
/-- sorted(xs): a list or a tuple, of ints, of texts -/
def rSrt (K : PySem.W.Frag) : List V → Hp → VK → Prop := fun vs H Q => ∃ (a : Addr) (ys : List V), vs = [V.ref a] ∧ (SqL K H a ys ∨ SqT K H a ys) ∧ ys.length ≤ sizeLine ∧
  ((∃ ns : List Int, ys = ns.map V.int ∧ ∀ p, H p = none → Q (.ref p) (upd H p (.lst ((sortI ns).map V.int)))) ∨ ∃ zs : List Str, ys = zs.map V.str ∧ ∀ p, H p = none → Q (.ref p) (upd H p (.lst ((sortS zs).map V.str))))
theorem cr_srt {X : Cx} : CallR X (.builtin "sorted") (rSrt X.K) := by
  intro pins s σ H vs us Q I r h
  obtain ⟨a, ys, rfl, hs, hz0, q⟩ := h
  rw [Vals.ref1 r]
  obtain ⟨its, rv, hl⟩ : ∃ its : List Value, Vals ys its ∧ (s.heap.IsList a its.toArray ∨ s.heap.IsTuple a its.toArray) := by
    rcases hs with hs | hs
    · obtain ⟨its, rv, hl, _⟩ := I.list hs
      exact ⟨its, rv, .inl hl.isList⟩
    · obtain ⟨its, rv, hl, _⟩ := I.tuple hs
      exact ⟨its, rv, .inr hl⟩
  have hz : its.length ≤ sizeLine := by rw [← rv.length]; exact hz0
  have run : ∀ (ltv : Value → Value → Bool), SrtO.Swo ltv → (2 ≤ its.length → ∀ (h₁ : Heap) (a : Addr), SrtO.SortableO X.prog X.w X.A.in1.in1 { s with heap := h₁ } a its ltv) → ∀ (Q' : Value → Shared → Prop),
      (∀ out : List Value, SrtO.Srtd ltv out → SrtO.Stb ltv out its → Q' (.ref (s.heap.objs.size + 1)) { s with heap := PyProof.Rows.sortedAll s.heap its out.toArray }) →
      wpAny (model X.prog X.w) X.A (call (.builtin "sorted") [.ref a]) Q' X.xe s := fun ltv O hS Q' hQ => by
    rcases hl with hl | hl
    · exact SrtO.sorted_ord O hl hz (fun h2 h₁ a' _ _ => hS h2 h₁ a') hQ
    · exact SrtO.z_sorted_tuple O hl hz (fun h2 h₁ a' _ _ => hS h2 h₁ a') hQ
  rcases q with ⟨ns, rfl, q⟩ | ⟨zs, rfl, q⟩
  · have hi := rv.ints
    refine run SrtO.ltIv SrtO.swo_int (fun h2 h₁ a' => SrtO.ints_sortable hi h2) _ fun out h1 h2 => ?_
    obtain ⟨k1, k2, k3⟩ := SrtO.ints_out hi h1 h2
    obtain ⟨ep, he'⟩ := PyProof.Rows.sortedAll_at s.heap its out.toArray
    rw [sortI_eq k2 k3] at k1 k2
    have hlen : ((sortI ns).map V.int).length ≤ sizeLine := by
      rw [List.length_map, k2.length_eq]
      rw [List.length_map] at hz0
      exact hz0
    exact ⟨.ref _, upd H (s.heap.objs.size + 1) (.lst ((sortI ns).map V.int)), I.laid (t' := s.toks) (fun _ _ => PyProof.Rows.sortedAll_old) (Nat.le_succ _) ⟨hlen, out, ep, vals_of_ints k1, he'⟩, rfl, q _ (I.hok.fresh (Nat.le_succ _))⟩
  · have hi := rv.strs
    refine run SrtO.ltSv SrtO.swo_str (fun h2 h₁ a' => SrtO.strs_sortable hi h2) _ fun out h1 h2 => ?_
    obtain ⟨k1, k2, k3⟩ := SrtO.strs_out hi h1 h2
    obtain ⟨ep, he'⟩ := PyProof.Rows.sortedAll_at s.heap its out.toArray
    rw [sortS_eq k2 k3] at k1 k2
    have hlen : ((sortS zs).map V.str).length ≤ sizeLine := by
      rw [List.length_map, k2.length_eq]
      rw [List.length_map] at hz0
      exact hz0
    exact ⟨.ref _, upd H (s.heap.objs.size + 1) (.lst ((sortS zs).map V.str)), I.laid (t' := s.toks) (fun _ _ => PyProof.Rows.sortedAll_old) (Nat.le_succ _) ⟨hlen, out, ep, vals_of_strs k1, he'⟩, rfl, q _ (I.hok.fresh (Nat.le_succ _))⟩
section
variable {ι : Type} {X : ι → Cx} {K : PySem.W.Frag} {T : List Addr} {W : WX} {N : List Str}
theorem srtOut_H {P : Addr → Prop} {S : Store} {H : Hp} {m : Nat → Addr} {σ : L2.St} {ys : List EV} {vs : List V} {Q : VK} (w : Wd K P S H m T) (r : RpL K P S H m vs ys) (h : Post K T P (RelE K P) S H m σ W (srtOut ys S) Q) :
    vs.length ≤ sizeLine ∧ ((∃ ns : List Int, vs = ns.map V.int ∧ ∀ p, H p = none → Q (.ref p) (upd H p (.lst ((sortI ns).map V.int)))) ∨ ∃ zs : List Str, vs = zs.map V.str ∧ ∀ p, H p = none → Q (.ref p) (upd H p (.lst ((sortS zs).map V.str)))) := by
  unfold srtOut at h
  split at h
  · rename_i ns qn
    have e := intsOf_rp qn r
    subst e
    split at h
    · rename_i hz
      exact ⟨by simpa using hz, .inl ⟨ns, rfl, newL_post w (dqInts _) h⟩⟩
    · exact h.elim
  · split at h
    · rename_i ds qd
      obtain rfl := evs_of qd
      split at h
      · rename_i zs qz
        have e := strsOf_H qz r.dq
        subst e
        split at h
        · rename_i hz
          exact ⟨by simpa using hz, .inr ⟨zs, rfl, newL_post w (dqStrs _) h⟩⟩
        · exact h.elim
      · exact h.elim
    · exact h.elim
theorem cd_sorted (F : Fam X K N) : CallD X K T (.builtin "sorted") gSorted := by
  refine ⟨rSrt K, fun i => by have := cr_srt (X := X i); rw [F.K i] at this; exact this, fun P S H m σ W xs vs Q w r h => ?_⟩
  unfold gSorted at h
  split at h
  · obtain ⟨v, rfl, rv⟩ := rpl_one r
    split at h
    · rename_i ys q
      obtain ⟨a, us, rfl, hs, rl⟩ := itemsLS_H w rv q
      obtain ⟨h1, h2⟩ := srtOut_H w rl h
      exact ⟨a, us, rfl, .inl hs, h1, h2⟩
    · split at h
      · rename_i ys q
        obtain ⟨a, o, us, rfl, hs, _, rl⟩ := itemsT_H rv q
        obtain ⟨h1, h2⟩ := srtOut_H w rl h
        exact ⟨a, us, rfl, .inr (sqT_frz hs), h1, h2⟩
      · exact h.elim
  · exact h.elim
/-! ### min, max of two -/
def gMin2 : List EV → Store → Res EV := fun xs S => match xs with
  | [.d (.int i), .d (.int j)] => .ok (.d (.int (if j < i then j else i))) S
  | _ => .bad
def gMax2 : List EV → Store → Res EV := fun xs S => match xs with
  | [.d (.int i), .d (.int j)] => .ok (.d (.int (if j > i then j else i))) S
  | _ => .bad
theorem cd_min2 (F : Fam X K N) : CallD X K T (.builtin "min") gMin2 := by
  refine ⟨_, fun i => call_min2 (F.calm i), fun P S H m σ W xs vs Q w r h => ?_⟩
  unfold gMin2 at h
  split at h
  · obtain ⟨v, u, rfl, r1, r2⟩ := rpl_two r
    exact ⟨_, _, by rw [rp_int r1, rp_int r2], Post.done (Rel := RelE K P) w h (Dq.int _)⟩
  · exact h.elim
theorem cd_max2 (F : Fam X K N) : CallD X K T (.builtin "max") gMax2 := by
  refine ⟨_, fun i => call_max2 (F.calm i), fun P S H m σ W xs vs Q w r h => ?_⟩
  unfold gMax2 at h
  split at h
  · obtain ⟨v, u, rfl, r1, r2⟩ := rpl_two r
    exact ⟨_, _, by rw [rp_int r1, rp_int r2], Post.done (Rel := RelE K P) w h (Dq.int _)⟩
  · exact h.elim
end
end Z
set_option maxRecDepth 100000
set_option maxHeartbeats 4000000
/-! Z25: what a plain function answers, read backwards. -/
namespace Z
open PySem PySem.Spec PyProof.Rows L2
abbrev XP := Exn → Store → Prop
abbrev nox : XP := fun _ _ => False
/-- what simp leaves as it stands -/
inductive Lk {β : Type} : β → Type where
  | mk {b : β} : Lk b
def Wp {α : Type} (r : Res α) (Q : α → Store → Prop) (X : XP) (_ : Lk (Q, X) := .mk) : Prop := match r with
  | .bad => False
  | .ok a S => Q a S
  | .exc e S => X e S
structure Dst where
  nx : Rho → Store → Prop
  ret : EV → Store → Prop
  brk : Rho → Store → Prop
  cont : Rho → Store → Prop
  exc : Exn → Rho → Store → Prop
def WpS (r : RS) (D : Dst) (_ : Lk D := .mk) : Prop := match r with
  | .bad => False
  | .nx ρ S => D.nx ρ S
  | .ret x S => D.ret x S
  | .brk ρ S => D.brk ρ S
  | .cont ρ S => D.cont ρ S
  | .exc e ρ S => D.exc e ρ S
section
variable {α β : Type} {Q Q' : α → Store → Prop} {X : XP} {D D' : Dst} {ρ ρ1 : Rho} {S S1 : Store} {g : GF} {sf sg : SF} {t : BF} {e : EF}
@[simp] theorem wp_ok {a : α} : Wp (.ok a S) Q X ↔ Q a S := Iff.rfl
@[simp] theorem wp_bad : Wp (.bad : Res α) Q X ↔ False := Iff.rfl
@[simp] theorem wp_exc {x : Exn} : Wp (.exc x S : Res α) Q X ↔ X x S := Iff.rfl
@[simp] theorem wp_bind {r : Res β} {k : β → Store → Res α} : Wp (r.bind k) Q X ↔ Wp r (fun b S => Wp (k b S) Q X) X := by cases r <;> exact Iff.rfl
@[simp] theorem wp_bindN {r : Res β} {k : β → Store → Res α} : Wp (r.bindN k) Q X ↔ Wp r (fun b S => Wp (k b S) Q X) nox := by cases r <;> exact Iff.rfl
theorem wps_toS' {r : Res β} {k : β → Store → RS} : WpS (r.toS ρ k) D ↔ Wp r (fun b S => WpS (k b S) D) (fun x S => D.exc x ρ S) := by cases r <;> exact Iff.rfl
section
variable {a b c : Rho → Store → Prop} {q : EV → Store → Prop} {z : Exn → Rho → Store → Prop}
@[simp] theorem wps_toS {r : Res β} {k : β → Store → RS} : WpS (r.toS ρ k) ⟨a, q, b, c, z⟩ ↔ Wp r (fun b' S => WpS (k b' S) ⟨a, q, b, c, z⟩) (fun x S => z x ρ S) := by cases r <;> exact Iff.rfl
@[simp] theorem wps_bad : WpS .bad D ↔ False := Iff.rfl
@[simp] theorem wps_nx : WpS (.nx ρ S) ⟨a, q, b, c, z⟩ ↔ a ρ S := Iff.rfl
@[simp] theorem wps_ret {x : EV} : WpS (.ret x S) ⟨a, q, b, c, z⟩ ↔ q x S := Iff.rfl
@[simp] theorem wps_brk : WpS (.brk ρ S) ⟨a, q, b, c, z⟩ ↔ b ρ S := Iff.rfl
@[simp] theorem wps_cont : WpS (.cont ρ S) ⟨a, q, b, c, z⟩ ↔ c ρ S := Iff.rfl
@[simp] theorem wps_exc {x : Exn} : WpS (.exc x ρ S) ⟨a, q, b, c, z⟩ ↔ z x ρ S := Iff.rfl
@[simp] theorem wps_seq : WpS (seqF sf sg ρ S) ⟨a, q, b, c, z⟩ ↔ WpS (sf ρ S) ⟨fun ρ1 S1 => WpS (sg ρ1 S1) ⟨a, q, b, c, z⟩, q, b, c, z⟩ := by
  unfold seqF
  cases sf ρ S <;> exact Iff.rfl
end
@[simp] theorem e_brk : brkF ρ S = .brk ρ S := (rfl)
@[simp] theorem e_cont : contF ρ S = .cont ρ S := (rfl)
@[simp] theorem wp_runF {N : List Str} {f : SF} {xs : List EV} {Q : EV → Store → Prop} : Wp (runF N f xs S) Q X ↔ WpS (f (startR N xs) S) ⟨fun _ S => Q (.d .none) S, Q, fun _ _ => False, fun _ _ => False, fun x _ S => X x S⟩ := by
  unfold runF
  cases f (startR N xs) S <;> exact Iff.rfl
theorem Wp.imp {r : Res α} {X' : XP} (h : Wp r Q X) (i : ∀ a S, Q a S → Q' a S) (j : ∀ x S, X x S → X' x S := by exact fun _ _ z => z.elim) : Wp r Q' X' := by
  cases r with
  | bad => exact h
  | ok a S => exact i a S h
  | exc x S => exact j x S h
theorem Wp.eq {r : Res α} {a : α} (h : Wp r (fun v S' => v = a ∧ S' = S) nox) : r = .ok a S := by
  cases r with
  | bad => exact h.elim
  | ok v S' => obtain ⟨rfl, rfl⟩ := h; rfl
  | exc x S => exact h.elim
theorem Wp.of {r : Res α} {a : α} (h : r = .ok a S) (q : Q a S) : Wp r Q X := by rw [h]; exact q
theorem Wp.ex {r : Res α} (h : Wp r Q nox) : ∃ a S', r = .ok a S' ∧ Q a S' := by
  cases r with
  | bad => exact h.elim
  | ok v S' => exact ⟨v, S', rfl, h⟩
  | exc x S => exact h.elim
theorem WpS.imp {r : RS} (h : WpS r D) (i1 : ∀ ρ S, D.nx ρ S → D'.nx ρ S) (i2 : ∀ x S, D.ret x S → D'.ret x S) (i3 : ∀ ρ S, D.brk ρ S → D'.brk ρ S) (i4 : ∀ ρ S, D.cont ρ S → D'.cont ρ S) (i5 : ∀ x ρ S, D.exc x ρ S → D'.exc x ρ S) : WpS r D' := by
  cases r with
  | bad => exact h
  | nx _ _ => exact i1 _ _ h
  | ret _ _ => exact i2 _ _ h
  | brk _ _ => exact i3 _ _ h
  | cont _ _ => exact i4 _ _ h
  | exc _ _ _ => exact i5 _ _ _ h
/-! ### loops -/
theorem wps_forI (I : Nat → Rho → Store → Prop) : ∀ (its : List Itm) (k : Nat) (ρ : Rho) (S : Store), I k ρ S →
    (∀ (q : Nat) (it : Itm), its[q]? = some it → ∀ ρ S, I (k + q) ρ S → ∃ ρ1, g it ρ = some ρ1 ∧ WpS (sf ρ1 S) ⟨I (k + q + 1), D.ret, D.nx, I (k + q + 1), D.exc⟩) →
    (∀ ρ S, I (k + its.length) ρ S → D.nx ρ S) → WpS (forL g sf its ρ S) D
  | [], k, ρ, S, h, _, hn => hn ρ S h
  | it :: r, k, ρ, S, h, st, hn => by
    obtain ⟨ρ1, e1, e2⟩ := st 0 it rfl ρ S h
    have ih := fun ρ2 S2 (h2 : I (k + 0 + 1) ρ2 S2) => wps_forI I r (k + 1) ρ2 S2 h2 (fun q it hq ρ S hI => by
      have := st (q + 1) it (by simpa using hq) ρ S (by rw [show k + (q + 1) = k + 1 + q by omega]; exact hI)
      rw [show k + (q + 1) + 1 = k + 1 + q + 1 by omega] at this
      exact this) (fun ρ S hI => hn ρ S (by rw [List.length_cons, show k + (r.length + 1) = k + 1 + r.length by omega]; exact hI))
    simp only [forL, e1]
    cases q : sf ρ1 S with
    | bad => rw [q] at e2; exact e2.elim
    | nx ρ2 S2 => rw [q] at e2; exact ih ρ2 S2 e2
    | cont ρ2 S2 => rw [q] at e2; exact ih ρ2 S2 e2
    | brk ρ2 S2 => rw [q] at e2; exact e2
    | ret x S2 => rw [q] at e2; exact e2
    | exc x ρ2 S2 => rw [q] at e2; exact e2
theorem wps_for {its : List Itm} (I : Nat → Rho → Store → Prop) (h0 : I 0 ρ S)
    (st : ∀ (q : Nat) (it : Itm), its[q]? = some it → ∀ ρ S, I q ρ S → ∃ ρ1, g it ρ = some ρ1 ∧ WpS (sf ρ1 S) ⟨I (q + 1), D.ret, D.nx, I (q + 1), D.exc⟩)
    (hn : ∀ ρ S, I its.length ρ S → D.nx ρ S) : WpS (forL g sf its ρ S) D := by
  refine wps_forI I its 0 ρ S h0 (fun q it hq ρ S hI => ?_) (fun ρ S hI => hn ρ S (by rw [Nat.zero_add] at hI; exact hI))
  rw [Nat.zero_add] at hI ⊢
  exact st q it hq ρ S hI
/-- over range -/
theorem wps_forR {lo : Int} {n : Nat} (I : Nat → Rho → Store → Prop) (h0 : I 0 ρ S)
    (st : ∀ q, q < n → ∀ ρ S, I q ρ S → ∃ ρ1, g (.one (.d (.int (lo + (q : Int))))) ρ = some ρ1 ∧ WpS (sf ρ1 S) ⟨I (q + 1), D.ret, D.nx, I (q + 1), D.exc⟩)
    (hn : ∀ ρ S, I n ρ S → D.nx ρ S) : WpS (forL g sf (rngL lo n) ρ S) D := by
  refine wps_for I h0 (fun q it hq ρ S hI => ?_) (by rw [rng_len]; exact hn)
  have hl : q < n := by
    have := (List.getElem?_eq_some_iff.mp hq).1
    rwa [rng_len] at this
  rw [rng_get hl] at hq
  cases hq
  exact st q hl ρ S hI
/-- over data -/
theorem wps_forD {ds : List PyData} (I : Nat → Rho → Store → Prop) (h0 : I 0 ρ S)
    (st : ∀ (q : Nat) (d : PyData), ds[q]? = some d → ∀ ρ S, I q ρ S → ∃ ρ1, g (.one (.d d)) ρ = some ρ1 ∧ WpS (sf ρ1 S) ⟨I (q + 1), D.ret, D.nx, I (q + 1), D.exc⟩)
    (hn : ∀ ρ S, I ds.length ρ S → D.nx ρ S) : WpS (forL g sf ((evs ds).map .one) ρ S) D := by
  refine wps_for I h0 (fun q it hq ρ S hI => ?_) (by rw [List.length_map, evs_len]; exact hn)
  rw [List.getElem?_map, evs_get, Option.map_map] at hq
  cases e : ds[q]? with
  | none => rw [e] at hq; cases hq
  | some d =>
    rw [e] at hq
    cases hq
    exact st q d e ρ S hI
theorem wps_while (I : Nat → Rho → Store → Prop) (st : ∀ k ρ S, I k ρ S → Wp (t ρ S) (fun b S1 => if b = true then WpS (sf ρ S1) ⟨fun ρ' S' => ∃ k', k' < k ∧ I k' ρ' S', D.ret, D.nx, fun ρ' S' => ∃ k', k' < k ∧ I k' ρ' S', D.exc⟩ else D.nx ρ S1) (fun x S => D.exc x ρ S))
    {k : Nat} (h : I k ρ S) : WpS (whileF t sf ρ S) D := by
  have key : ∀ k ρ S, I k ρ S → ∃ n, WpS (whileN t sf n ρ S) D := by
    intro k
    induction k using Nat.strongRecOn with
    | _ k ih =>
      intro ρ S h
      have h1 := st k ρ S h
      cases qt : t ρ S with
      | bad => rw [qt] at h1; exact h1.elim
      | exc x S1 => rw [qt] at h1; exact ⟨1, by unfold whileN; rw [qt]; exact h1⟩
      | ok b S1 =>
        rw [qt] at h1
        have h2 : if b = true then WpS (sf ρ S1) ⟨fun ρ' S' => ∃ k', k' < k ∧ I k' ρ' S', D.ret, D.nx, fun ρ' S' => ∃ k', k' < k ∧ I k' ρ' S', D.exc⟩ else D.nx ρ S1 := h1
        cases b with
        | false => exact ⟨1, by unfold whileN; rw [qt]; exact h2⟩
        | true =>
          have h3 : WpS (sf ρ S1) ⟨fun ρ' S' => ∃ k', k' < k ∧ I k' ρ' S', D.ret, D.nx, fun ρ' S' => ∃ k', k' < k ∧ I k' ρ' S', D.exc⟩ := h2
          cases qs : sf ρ S1 with
          | bad => rw [qs] at h3; exact h3.elim
          | nx ρ2 S2 =>
            rw [qs] at h3
            obtain ⟨k', hk, hI⟩ := h3
            obtain ⟨n, hn⟩ := ih k' hk ρ2 S2 hI
            exact ⟨n + 1, by unfold whileN; rw [qt]; simp only [Res.toS, if_true, qs]; exact hn⟩
          | cont ρ2 S2 =>
            rw [qs] at h3
            obtain ⟨k', hk, hI⟩ := h3
            obtain ⟨n, hn⟩ := ih k' hk ρ2 S2 hI
            exact ⟨n + 1, by unfold whileN; rw [qt]; simp only [Res.toS, if_true, qs]; exact hn⟩
          | brk ρ2 S2 => rw [qs] at h3; exact ⟨1, by unfold whileN; rw [qt]; simp only [Res.toS, if_true, qs]; exact h3⟩
          | ret x S2 => rw [qs] at h3; exact ⟨1, by unfold whileN; rw [qt]; simp only [Res.toS, if_true, qs]; exact h3⟩
          | exc x ρ2 S2 => rw [qs] at h3; exact ⟨1, by unfold whileN; rw [qt]; simp only [Res.toS, if_true, qs]; exact h3⟩
  obtain ⟨n, hn⟩ := key k ρ S h
  rw [whileF_eq (n := n) (fun e => by rw [e] at hn; exact hn)]
  exact hn
/-! ### comprehensions -/
theorem wp_lcI (I : Nat → List EV → Store → Prop) : ∀ (its : List Itm) (k : Nat) (acc : List EV) (S : Store), I k acc S →
    (∀ (q : Nat) (it : Itm), its[q]? = some it → ∀ acc S, I (k + q) acc S → ∃ ρ1, g it ρ = some ρ1 ∧ Wp (t ρ1 S) (fun b S1 => if b = true then Wp (e ρ1 S1) (fun y S2 => I (k + q + 1) (acc ++ [y]) S2) nox else I (k + q + 1) acc S1) nox) →
    Wp (lcL g t e ρ its S) (fun ys S' => I (k + its.length) (acc ++ ys) S') nox
  | [], k, acc, S, h, _ => by simpa [lcL] using h
  | it :: r, k, acc, S, h, st => by
    obtain ⟨ρ1, e1, h1⟩ := st 0 it rfl acc S h
    have ih := fun acc2 S2 (h2 : I (k + 0 + 1) acc2 S2) => wp_lcI I r (k + 1) acc2 S2 h2 (fun q it hq acc S hI => by
      have := st (q + 1) it (by simpa using hq) acc S (by rw [show k + (q + 1) = k + 1 + q by omega]; exact hI)
      rw [show k + (q + 1) + 1 = k + 1 + q + 1 by omega] at this
      exact this)
    have el : k + (it :: r).length = k + 1 + r.length := by rw [List.length_cons]; omega
    rw [el]
    simp only [lcL, e1, wp_bindN]
    refine Wp.imp (X := nox) h1 (fun b S1 h2 => ?_)
    cases b with
    | false => exact ih acc S1 h2
    | true =>
      simp only [if_true, wp_bindN] at h2 ⊢
      refine Wp.imp (X := nox) h2 fun y S2 h3 => ?_
      rw [wp_bindN]
      refine Wp.imp (X := nox) (ih _ S2 h3) fun ys S3 h4 => ?_
      rw [List.append_assoc] at h4
      exact h4
theorem wp_lc {its : List Itm} {Q : List EV → Store → Prop} (I : Nat → List EV → Store → Prop) (h0 : I 0 [] S)
    (st : ∀ (q : Nat) (it : Itm), its[q]? = some it → ∀ acc S, I q acc S → ∃ ρ1, g it ρ = some ρ1 ∧ Wp (t ρ1 S) (fun b S1 => if b = true then Wp (e ρ1 S1) (fun y S2 => I (q + 1) (acc ++ [y]) S2) nox else I (q + 1) acc S1) nox)
    (hn : ∀ ys S, I its.length ys S → Q ys S) : Wp (lcL g t e ρ its S) Q X := by
  refine Wp.imp (X := nox) (wp_lcI I its 0 [] S h0 (fun q it hq acc S hI => ?_)) (fun ys S' h => hn ys S' ?_)
  · rw [Nat.zero_add] at hI ⊢
    exact st q it hq acc S hI
  · rw [Nat.zero_add, List.nil_append] at h; exact h
/-- that leaves the store alone -/
theorem wp_lcP {γ : Type} {its : List Itm} {Q : List EV → Store → Prop} {cs : List γ} (mkI : γ → Itm) (p : γ → Bool) (F : γ → EV) (hi : its = cs.map mkI)
    (st : ∀ c ∈ cs, ∃ ρ1, g (mkI c) ρ = some ρ1 ∧ Wp (t ρ1 S) (fun b S1 => S1 = S ∧ b = p c ∧ (p c = true → Wp (e ρ1 S) (fun y S2 => S2 = S ∧ y = F c) nox)) nox)
    (hQ : Q ((cs.filter p).map F) S) : Wp (lcL g t e ρ its S) Q X := by
  subst hi
  refine Wp.of (lcL_pure mkI p F cs fun c hc => ?_) hQ
  obtain ⟨ρ1, e1, h1⟩ := st c hc
  obtain ⟨b, S1, q1, rfl, rfl, h2⟩ := h1.ex
  refine ⟨ρ1, e1, q1, fun hp => ?_⟩
  obtain ⟨y, S2, q2, rfl, rfl⟩ := (h2 hp).ex
  exact q2
theorem filter_true {γ : Type} (cs : List γ) : cs.filter (fun _ => true) = cs := List.filter_eq_self.mpr fun _ _ => rfl
/-- .. without a test, its items data -/
theorem wp_lcM {γ : Type} {its : List Itm} {Q : List EV → Store → Prop} {cs : List γ} (mkI : γ → Itm) (F : γ → PyData) (hi : its = cs.map mkI)
    (st : ∀ c ∈ cs, ∃ ρ1, g (mkI c) ρ = some ρ1 ∧ Wp (e ρ1 S) (fun y S2 => S2 = S ∧ y = .d (F c)) nox)
    (hQ : Q (evs (cs.map F)) S) : Wp (lcL g yesF e ρ its S) Q X := by
  refine wp_lcP mkI (fun _ => true) (fun c => .d (F c)) hi (fun c hc => ?_) ?_
  · obtain ⟨ρ1, e1, h1⟩ := st c hc
    exact ⟨ρ1, e1, rfl, rfl, fun _ => h1⟩
  · rw [filter_true]
    have : cs.map (fun c => EV.d (F c)) = evs (cs.map F) := by simp [evs]
    rw [this]; exact hQ
/-- .. with a test, its items data -/
theorem wp_lcF {γ : Type} {its : List Itm} {Q : List EV → Store → Prop} {cs : List γ} (mkI : γ → Itm) (p : γ → Bool) (F : γ → PyData) (hi : its = cs.map mkI)
    (st : ∀ c ∈ cs, ∃ ρ1, g (mkI c) ρ = some ρ1 ∧ Wp (t ρ1 S) (fun b S1 => S1 = S ∧ b = p c ∧ (p c = true → Wp (e ρ1 S) (fun y S2 => S2 = S ∧ y = .d (F c)) nox)) nox)
    (hQ : Q (evs ((cs.filter p).map F)) S) : Wp (lcL g t e ρ its S) Q X := by
  refine wp_lcP mkI p (fun c => .d (F c)) hi st ?_
  have : (cs.filter p).map (fun c => EV.d (F c)) = evs ((cs.filter p).map F) := by simp [evs]
  rw [this]; exact hQ
/-! ### generator expressions -/
@[simp] theorem e_allF {f : IF} {vs : List Nat} : allF f g t e vs ρ S = (f ρ S).bind fun its S1 => boolR (allT (genT g t e (wipeR ρ vs) its S1)) := (rfl)
@[simp] theorem e_anyF {f : IF} {vs : List Nat} : anyF f g t e vs ρ S = (f ρ S).bind fun its S1 => boolR (anyT (genT g t e (wipeR ρ vs) its S1)) := (rfl)
theorem intsOf_ints : ∀ ns : List Int, intsOf (evs (ns.map .int)) = some ns
  | [] => rfl
  | n :: r => by show (intsOf (evs (r.map .int))).map (n :: ·) = _; rw [intsOf_ints r]; rfl
@[simp] theorem mkSum_ints {ns : List Int} : mkSum (evs (ns.map .int)) S = .ok (.d (.int ns.sum)) S := by unfold mkSum; rw [intsOf_ints]
theorem wp_coll {γ : Type} {mk : List EV → Store → Res EV} {its : List Itm} {Q : EV → Store → Prop} {cs : List γ} (mkI : γ → Itm) (p : γ → Bool) (F : γ → PyData) (hi : its = cs.map mkI)
    (st : ∀ c ∈ cs, ∃ ρ1, g (mkI c) ρ = some ρ1 ∧ Wp (t ρ1 S) (fun b S1 => S1 = S ∧ b = p c ∧ (p c = true → Wp (e ρ1 S) (fun y S2 => S2 = S ∧ y = .d (F c)) nox)) nox)
    (hQ : Wp (mk (evs ((cs.filter p).map F)) S) Q X) : Wp (mkColl mk (genT g t e ρ its S)) Q X := by
  subst hi
  unfold mkColl
  rw [genT_pure (S := S) mkI p (fun c => .d (F c)) cs fun c hc => ?_]
  · have : (cs.filter p).map (fun c => EV.d (F c)) = evs ((cs.filter p).map F) := by simp [evs]
    rw [this]; exact hQ
  · obtain ⟨ρ1, e1, h1⟩ := st c hc
    obtain ⟨b, S1, q1, rfl, rfl, h2⟩ := h1.ex
    refine ⟨ρ1, e1, q1, fun hp => ?_⟩
    obtain ⟨y, S2, q2, rfl, rfl⟩ := (h2 hp).ex
    exact q2
/-- .. without a test -/
theorem wp_collM {γ : Type} {mk : List EV → Store → Res EV} {its : List Itm} {Q : EV → Store → Prop} {cs : List γ} (mkI : γ → Itm) (F : γ → PyData) (hi : its = cs.map mkI)
    (st : ∀ c ∈ cs, ∃ ρ1, g (mkI c) ρ = some ρ1 ∧ Wp (e ρ1 S) (fun y S2 => S2 = S ∧ y = .d (F c)) nox)
    (hQ : Wp (mk (evs (cs.map F)) S) Q X) : Wp (mkColl mk (genT g yesF e ρ its S)) Q X := by
  refine wp_coll mkI (fun _ => true) F hi (fun c hc => ?_) (by rw [filter_true]; exact hQ)
  obtain ⟨ρ1, e1, h1⟩ := st c hc
  exact ⟨ρ1, e1, rfl, rfl, fun _ => h1⟩
theorem allT_pure {γ : Type} (mkI : γ → Itm) (F : γ → Bool) : ∀ (cs : List γ), (∀ c ∈ cs, ∃ ρ1, g (mkI c) ρ = some ρ1 ∧ e ρ1 S = .ok (.d (.bool (F c))) S) → allT (genT g yesF e ρ (cs.map mkI) S) = some (cs.all F, S)
  | [], _ => rfl
  | c :: r, h => by
    obtain ⟨ρ1, e1, e2⟩ := h c List.mem_cons_self
    have ih := allT_pure mkI F r fun c hc => h c (List.mem_cons_of_mem _ hc)
    simp only [List.map_cons, genT, e1, yesF, e2, List.all_cons]
    cases F c with
    | true => simpa [allT] using ih
    | false => rfl
theorem anyT_pure {γ : Type} (mkI : γ → Itm) (F : γ → Bool) : ∀ (cs : List γ), (∀ c ∈ cs, ∃ ρ1, g (mkI c) ρ = some ρ1 ∧ e ρ1 S = .ok (.d (.bool (F c))) S) → anyT (genT g yesF e ρ (cs.map mkI) S) = some (cs.any F, S)
  | [], _ => rfl
  | c :: r, h => by
    obtain ⟨ρ1, e1, e2⟩ := h c List.mem_cons_self
    have ih := anyT_pure mkI F r fun c hc => h c (List.mem_cons_of_mem _ hc)
    simp only [List.map_cons, genT, e1, yesF, e2, List.any_cons]
    cases F c with
    | true => rfl
    | false => simpa [anyT] using ih
theorem wp_all {γ : Type} {its : List Itm} {Q : EV → Store → Prop} {cs : List γ} (mkI : γ → Itm) (F : γ → Bool) (hi : its = cs.map mkI)
    (st : ∀ c ∈ cs, ∃ ρ1, g (mkI c) ρ = some ρ1 ∧ Wp (e ρ1 S) (fun y S2 => S2 = S ∧ y = .d (.bool (F c))) nox) (hQ : Q (.d (.bool (cs.all F))) S) : Wp (boolR (allT (genT g yesF e ρ its S))) Q X := by
  subst hi
  rw [allT_pure mkI F cs fun c hc => ?_]
  · exact hQ
  · obtain ⟨ρ1, e1, h1⟩ := st c hc
    obtain ⟨y, S2, q2, rfl, rfl⟩ := h1.ex
    exact ⟨ρ1, e1, q2⟩
theorem wp_any {γ : Type} {its : List Itm} {Q : EV → Store → Prop} {cs : List γ} (mkI : γ → Itm) (F : γ → Bool) (hi : its = cs.map mkI)
    (st : ∀ c ∈ cs, ∃ ρ1, g (mkI c) ρ = some ρ1 ∧ Wp (e ρ1 S) (fun y S2 => S2 = S ∧ y = .d (.bool (F c))) nox) (hQ : Q (.d (.bool (cs.any F))) S) : Wp (boolR (anyT (genT g yesF e ρ its S))) Q X := by
  subst hi
  rw [anyT_pure mkI F cs fun c hc => ?_]
  · exact hQ
  · obtain ⟨ρ1, e1, h1⟩ := st c hc
    obtain ⟨y, S2, q2, rfl, rfl⟩ := h1.ex
    exact ⟨ρ1, e1, q2⟩
end
/-! ### what is walked, as a map -/
def itI (i : Int) : Itm := .one (.d (.int i))
def itD (d : PyData) : Itm := .one (.d d)
theorem rngL_map (lo : Int) (n : Nat) : rngL lo n = (List.range n).map fun k : Nat => itI (lo + (k : Int)) := by
  unfold rngL itI
  rfl
theorem one_map {γ : Type} (f : γ → PyData) (cs : List γ) : (evs (cs.map f)).map Itm.one = cs.map fun c => itD (f c) := by
  simp [evs, itD]
theorem one_map' (ds : List PyData) : (evs ds).map Itm.one = ds.map itD := by
  simp [evs, itD]
theorem enL_map (ds : List PyData) : ∀ k : Nat, enL ds k = (ds.zipIdx k).map fun p => Itm.row [.d (.int ((p.2 : Nat) : Int)), .d p.1] := by
  induction ds with
  | nil => intro k; rfl
  | cons d r ih => intro k; simp [enL, ih]
theorem zpL_map : ∀ (xs ys : List PyData), zpL xs ys = (xs.zip ys).map fun p => Itm.row [.d p.1, .d p.2]
  | [], _ => rfl
  | _ :: _, [] => rfl
  | x :: xs, y :: ys => by simp [zpL, zpL_map xs ys]
end Z
set_option maxRecDepth 100000
set_option maxHeartbeats 4000000
/-! Z26: comparing data, being in data. -/
namespace Z
open PySem PySem.Spec PyProof.Rows L2
section
variable {S : Store} {n : Nat} {γ : Type} {f : γ → PyData}
/-- data that can be laid, of depth at most k -/
structure Dpt (k : Nat) (d : PyData) : Prop where
  can : d.canLay0 = true
  dep : d.depth ≤ k
theorem Dpt.shaped {k : Nat} {d : PyData} (h : Dpt k d) (hk : k ≤ 64 := by decide) : SeqAt.shaped d = true := by
  show (d.canLay0 && decide (d.depth ≤ 64)) = true
  have := h.dep
  simp [h.can, show d.depth ≤ 64 by omega]
theorem Dpt.mono {k j : Nat} {d : PyData} (h : Dpt k d) (hk : k ≤ j) : Dpt j d := ⟨h.can, Nat.le_trans h.dep hk⟩
theorem dpt_int {k : Nat} (i : Int) : Dpt k (.int i) := ⟨rfl, Nat.zero_le _⟩
theorem dpt_bool {k : Nat} (i : Bool) : Dpt k (.bool i) := ⟨rfl, Nat.zero_le _⟩
theorem dpt_none {k : Nat} : Dpt k .none := ⟨rfl, Nat.zero_le _⟩
theorem dpt_str {k : Nat} {a : Str} (h : PyData.strOk a = true) : Dpt k (.str a) := ⟨by simp [PyData.canLay0, h], Nat.zero_le _⟩
theorem can_all : ∀ {ds : List PyData}, (∀ d ∈ ds, d.canLay0 = true) → PyData.canLayAll0 ds = true
  | [], _ => rfl
  | d :: r, h => by
    show (d.canLay0 && PyData.canLayAll0 r) = true
    rw [h d List.mem_cons_self, can_all fun x hx => h x (List.mem_cons_of_mem _ hx)]
    rfl
theorem dep_all {k : Nat} : ∀ {ds : List PyData}, (∀ d ∈ ds, d.depth ≤ k) → PyData.depthAll ds ≤ k
  | [], _ => Nat.zero_le _
  | d :: r, h => by
    show max d.depth (PyData.depthAll r) ≤ k
    exact Nat.max_le.mpr ⟨h d List.mem_cons_self, dep_all fun x hx => h x (List.mem_cons_of_mem _ hx)⟩
theorem dpt_tuple {k : Nat} {ds : List PyData} (h : ∀ d ∈ ds, Dpt k d) : Dpt (k + 1) (.tuple ds) := ⟨can_all fun d hd => (h d hd).can, by
  show PyData.depthAll ds + 1 ≤ k + 1
  exact Nat.succ_le_succ (dep_all fun d hd => (h d hd).dep)⟩
theorem dpt_list {k : Nat} {ds : List PyData} (h : ∀ d ∈ ds, Dpt k d) : Dpt (k + 1) (.list ds) := ⟨can_all fun d hd => (h d hd).can, by
  show PyData.depthAll ds + 1 ≤ k + 1
  exact Nat.succ_le_succ (dep_all fun d hd => (h d hd).dep)⟩
theorem dpt_map {k : Nat} {xs : List γ} (h : ∀ a ∈ xs, Dpt k (f a)) : ∀ d ∈ xs.map f, Dpt k d := fun d hd => by
  obtain ⟨a, ha, rfl⟩ := List.mem_map.mp hd
  exact h a ha
/-- things told apart by == -/
def EqI [DecidableEq γ] (f : γ → PyData) : Prop := ∀ a b, PyData.eqv (f a) (f b) = decide (a = b)
theorem eqi_int : EqI PyData.int := fun a b => by
  have : PyData.eqv (.int a) (.int b) = (a == b) := by simp only [PyData.eqv]
  rw [this]; rfl
theorem eqi_nat : EqI (fun k : Nat => PyData.int (k : Int)) := fun a b => by
  rw [eqi_int]
  by_cases e : a = b
  · subst e; simp
  · have : ¬ ((a : Int) = (b : Int)) := by omega
    simp [e, this]
theorem eqi_str : EqI PyData.str := fun a b => by
  have : PyData.eqv (.str a) (.str b) = (a == b) := by simp only [PyData.eqv]
  rw [this]
  rfl
theorem EqI.all [DecidableEq γ] (h : EqI f) : ∀ xs ys : List γ, PyData.eqvAll (xs.map f) (ys.map f) = decide (xs = ys)
  | [], [] => rfl
  | [], _ :: _ => by simp [PyData.eqvAll]
  | _ :: _, [] => by simp [PyData.eqvAll]
  | x :: xs, y :: ys => by
    simp only [List.map_cons, PyData.eqvAll, h x y, EqI.all h xs ys]
    by_cases e : x = y <;> simp [e]
theorem EqI.tuple [DecidableEq γ] (h : EqI f) : EqI fun xs : List γ => PyData.tuple (xs.map f) := fun xs ys => by
  have := h.all xs ys
  simpa only [PyData.eqv] using this
theorem EqI.list [DecidableEq γ] (h : EqI f) : EqI fun xs : List γ => PyData.list (xs.map f) := fun xs ys => by
  have := h.all xs ys
  simpa only [PyData.eqv] using this
theorem eq_run {neg : Bool} {a b : PyData} (ha : SeqAt.shaped a = true) (hb : SeqAt.shaped b = true) : gEq neg (.d a) (.d b) S = .ok (.d (.bool (neg ^^ PyData.eqv a b))) S := by
  show (if SeqAt.shaped a = true ∧ SeqAt.shaped b = true then Res.ok (EV.d (.bool (neg ^^ PyData.eqv a b))) S else .bad) = _
  rw [if_pos ⟨ha, hb⟩]
theorem any_map [DecidableEq γ] (h : EqI f) (a : γ) : ∀ ys : List γ, ((ys.map f).any fun z => PyData.eqv z (f a)) = decide (a ∈ ys)
  | [] => by simp
  | y :: ys => by
    simp only [List.map_cons, List.any_cons, h y a, any_map h a ys, List.mem_cons]
    by_cases e : y = a
    · subst e; simp
    · have : ¬ a = y := fun z => e z.symm
      simp [e, this]
theorem in_list [DecidableEq γ] (h : EqI f) {neg : Bool} {a : γ} {ys : List γ} (ha : SeqAt.shaped (f a) = true) (hs : SeqAt.shaped (.list (ys.map f)) = true) :
    gIn neg (.d (f a)) (.d (.list (ys.map f))) S = .ok (.d (.bool (neg ^^ decide (a ∈ ys)))) S := by
  have e := any_map h a ys
  simp only [gIn, gOr, gInL, view, ha, hs, and_self, if_true, e, Res.or]
theorem in_tuple [DecidableEq γ] (h : EqI f) {neg : Bool} {a : γ} {ys : List γ} (ha : SeqAt.shaped (f a) = true) (hs : SeqAt.shaped (.tuple (ys.map f)) = true) :
    gIn neg (.d (f a)) (.d (.tuple (ys.map f))) S = .ok (.d (.bool (neg ^^ decide (a ∈ ys)))) S := by
  have e := any_map h a ys
  simp only [gIn, gOr, gInL, gInT, view, ha, hs, and_self, if_true, e, Res.or]
theorem in_own [DecidableEq γ] (h : EqI f) {neg : Bool} {a : γ} {ys : List γ} (e0 : S[n]? = some (.lst (evs (ys.map f)))) (ha : SeqAt.shaped (f a) = true) (hs : SeqAt.shaped (.list (ys.map f)) = true) :
    gIn neg (.d (f a)) (.own n) S = .ok (.d (.bool (neg ^^ decide (a ∈ ys)))) S := by
  have e := any_map h a ys
  simp only [gIn, gOr, gInL, view, e0, datas_evs', Option.map_some, ha, hs, and_self, if_true, e, Res.or]
/-! ### numbers of things -/
def NI (xs : List Nat) : List PyData := xs.map fun k : Nat => PyData.int (k : Int)
@[simp] theorem NI_len {xs : List Nat} : (NI xs).length = xs.length := List.length_map _
theorem NI_app {xs ys : List Nat} : NI xs ++ NI ys = NI (xs ++ ys) := (List.map_append).symm
theorem NI_nil : NI [] = [] := rfl
theorem NI_at {xs : List Nat} {k : Nat} (hk : k < xs.length) : atI (NI xs) (k : Int) = some (.int ((xs[k] : Nat) : Int)) := by rw [atI_nat]; simp [NI, hk]
theorem NI_get {xs : List Nat} {k : Nat} : (NI xs)[k]? = (xs[k]?).map fun k : Nat => PyData.int (k : Int) := List.getElem?_map
theorem NI_take {xs : List Nat} {k : Nat} : (NI xs).take k = NI (xs.take k) := (List.map_take).symm
abbrev II (xs : List Int) : List PyData := xs.map PyData.int
theorem shaped_NI (xs : List Nat) : SeqAt.shaped (.list (NI xs)) = true := (dpt_list (k := 0) (dpt_map fun _ _ => dpt_int _)).shaped
theorem shaped_II (xs : List Int) : SeqAt.shaped (.list (II xs)) = true := (dpt_list (k := 0) (dpt_map fun _ _ => dpt_int _)).shaped
theorem shaped_IT (xs : List Int) : SeqAt.shaped (.tuple (II xs)) = true := (dpt_tuple (k := 0) (dpt_map fun _ _ => dpt_int _)).shaped
@[simp] theorem in_NI {neg : Bool} {k : Nat} {xs : List Nat} : gIn neg (.d (.int (k : Int))) (.d (.list (NI xs))) S = .ok (.d (.bool (neg ^^ decide (k ∈ xs)))) S := in_list eqi_nat (dpt_int (k := 0) _).shaped (shaped_NI xs)
theorem in_NIo {neg : Bool} {k : Nat} {xs : List Nat} (e : S[n]? = some (.lst (evs (NI xs)))) : gIn neg (.d (.int (k : Int))) (.own n) S = .ok (.d (.bool (neg ^^ decide (k ∈ xs)))) S := in_own eqi_nat e (dpt_int (k := 0) _).shaped (shaped_NI xs)
@[simp] theorem eq_NI {neg : Bool} {xs ys : List Nat} : gEq neg (.d (.list (NI xs))) (.d (.list (NI ys))) S = .ok (.d (.bool (neg ^^ decide (xs = ys)))) S := by
  rw [eq_run (shaped_NI xs) (shaped_NI ys), show PyData.eqv (.list (NI xs)) (.list (NI ys)) = decide (xs = ys) from eqi_nat.list xs ys]
@[simp] theorem eq_NI0 {neg : Bool} {xs : List Nat} : gEq neg (.d (.list (NI xs))) (.d (.list [])) S = .ok (.d (.bool (neg ^^ decide (xs = [])))) S := eq_NI (ys := [])
theorem in_strs {neg : Bool} {a : Str} {ys : List Str} (ha : PyData.strOk a = true) (hs : ∀ y ∈ ys, PyData.strOk y = true) : gIn neg (.d (.str a)) (.d (.tuple (ys.map .str))) S = .ok (.d (.bool (neg ^^ decide (a ∈ ys)))) S :=
  in_tuple eqi_str (dpt_str (k := 0) ha).shaped (dpt_tuple (k := 0) (dpt_map fun y hy => dpt_str (hs y hy))).shaped
theorem in_strsL {neg : Bool} {a : Str} {ys : List Str} (ha : PyData.strOk a = true) (hs : ∀ y ∈ ys, PyData.strOk y = true) : gIn neg (.d (.str a)) (.d (.list (ys.map .str))) S = .ok (.d (.bool (neg ^^ decide (a ∈ ys)))) S :=
  in_list eqi_str (dpt_str (k := 0) ha).shaped (dpt_list (k := 0) (dpt_map fun y hy => dpt_str (hs y hy))).shaped
theorem eq_strsL {neg : Bool} {xs ys : List Str} (h1 : ∀ y ∈ xs, PyData.strOk y = true) (h2 : ∀ y ∈ ys, PyData.strOk y = true) : gEq neg (.d (.list (xs.map .str))) (.d (.list (ys.map .str))) S = .ok (.d (.bool (neg ^^ decide (xs = ys)))) S := by
  rw [eq_run (dpt_list (k := 0) (dpt_map fun y hy => dpt_str (h1 y hy))).shaped (dpt_list (k := 0) (dpt_map fun y hy => dpt_str (h2 y hy))).shaped, eqi_str.list xs ys]
theorem atI_map {α β : Type} (f : α → β) {xs : List α} {k : Nat} (hk : k < xs.length) : atI (xs.map f) (k : Int) = some (f xs[k]) := by rw [atI_nat]; simp [hk]
theorem atI_mapD {α β : Type} (f : α → β) (d : α) {xs : List α} {k : Nat} (hk : k < xs.length) : atI (xs.map f) (k : Int) = some (f (xs.getD k d)) := by rw [atI_nat]; simp [hk, List.getD_eq_getElem?_getD]
theorem atI_range {β : Type} (f : Nat → β) {m k : Nat} (hk : k < m) : atI ((List.range m).map f) (k : Int) = some (f k) := by rw [atI_nat]; simp [hk]
theorem getD_range {β : Type} (f : Nat → β) {m k : Nat} (hk : k < m) (d : β) : ((List.range m).map f).getD k d = f k := by simp [List.getD_eq_getElem?_getD, hk]
theorem set_range {β : Type} (f : Nat → β) {m k : Nat} (y : β) : ((List.range m).map f).set k y = (List.range m).map fun j => if j = k then y else f j := by
  apply List.ext_getElem?
  intro j
  by_cases e : k = j
  · subst e
    by_cases hk : k < m
    · simp [hk]
    · simp [hk]
  · have : ¬ j = k := fun z => e z.symm
    rw [List.getElem?_set_ne e]
    by_cases hj : j < m
    · simp [hj, this]
    · simp [hj]
theorem evs_map (f : γ → PyData) (xs : List γ) : evs (xs.map f) = xs.map fun a => EV.d (f a) := by simp [evs]
theorem set_evs {ds : List PyData} {k : Nat} {d : PyData} : (evs ds).set k (.d d) = evs (ds.set k d) := by simp [evs, List.map_set]
theorem evs_app {ds es : List PyData} : evs ds ++ evs es = evs (ds ++ es) := by simp [evs]
theorem evs_snoc {ds : List PyData} {d : PyData} : evs ds ++ [.d d] = evs (ds ++ [d]) := by simp [evs]
theorem atI_evs {ds : List PyData} {i : Int} : atI (evs ds) i = (atI ds i).map .d := by
  unfold atI
  rw [evs_len]
  cases ixN ds.length i <;> simp
@[simp] theorem sorted_II {xs : List Int} (h : xs.length ≤ 10000) : gSorted [.d (.list (II xs))] S = .ok (.d (.list (II (sortI xs)))) S := by
  have e : intsOf (evs (II xs)) = some xs := intsOf_ints xs
  simp [gSorted, srtOut, e, small h]
theorem intsOf_strs : ∀ {zs : List Str}, zs ≠ [] → intsOf (evs (zs.map .str)) = none
  | [], h => absurd rfl h
  | z :: r, _ => rfl
theorem sorted_strs {zs : List Str} (h : zs.length ≤ 10000) : gSorted [.d (.tuple (zs.map .str))] S = .ok (.d (.list ((sortS zs).map .str))) S := by
  cases zs with
  | nil => simp [gSorted, srtOut, sortS, sortI, intsOf]
  | cons z r =>
    have e := intsOf_strs (zs := z :: r) (by simp)
    simp only [gSorted, iLS_tup, iT_tup, srtOut, e, datas_evs', strs_map, if_pos (small h)]
theorem sorted_strsL {zs : List Str} (h : zs.length ≤ 10000) : gSorted [.d (.list (zs.map .str))] S = .ok (.d (.list ((sortS zs).map .str))) S := by
  cases zs with
  | nil => simp [gSorted, srtOut, sortS, sortI, intsOf]
  | cons z r =>
    have e := intsOf_strs (zs := z :: r) (by simp)
    simp only [gSorted, iLS_list, srtOut, e, datas_evs', strs_map, if_pos (small h)]
@[simp] theorem min2_int {i j : Int} : gMin2 [.d (.int i), .d (.int j)] S = .ok (.d (.int (if j < i then j else i))) S := (rfl)
@[simp] theorem max2_int {i j : Int} : gMax2 [.d (.int i), .d (.int j)] S = .ok (.d (.int (if j > i then j else i))) S := (rfl)
theorem range_map_eq {β : Type} {f g : Nat → β} {m : Nat} (h : ∀ k, k < m → f k = g k) : (List.range m).map f = (List.range m).map g := List.map_congr_left fun k hk => h k (List.mem_range.mp hk)
end
end Z
set_option maxRecDepth 100000
set_option maxHeartbeats 4000000
/-! Z27: min, max of ints, a list or a tuple. -/
namespace PySem
open PyProof.Rows L2
section
variable {prog : Program} {w : World} {A : Around} {E : Value → Shared → Prop} {s : Shared}
theorem z_min_tup {t : Addr} {xs : Array (Int × Tok)} {Q : Value → Shared → Prop} (hh : A.handled = none) (ht : s.heap.IsTuple t (intItems xs)) (hn : 0 < xs.size)
    (h : ∀ v h' tk, (∃ t', v = .int (numAt xs (argBest (fun j k => decide (numAt xs j < numAt xs k)) (xs.size - 1))) t') → (∀ b o, s.heap.get? b = some o → h'.get? b = some o) → Q v { s with heap := h', toks := tk }) :
    wpAny (model prog w) A (call (.builtin "min") [.ref t]) Q E s := by
  obtain ⟨o, ho, hc, n, hd⟩ := id ht
  have hne : t ≠ s.heap.objs.size := Nat.ne_of_lt (Heap.lt_size ho)
  have hsz : (intItems xs).size = xs.size := by simp [intItems]
  have W := (Walks.tuple (prog := prog) (w := w) (A := A.in1) hh s.heap.objs.size t hne (intItems xs)).toS
  rw [hsz] at W
  refine call_min_walkS (wpAny_pyIter_tuple ht ?_)
  refine ⟨s.heap.objs.size, _, _, _, _, _, _, _, rfl, W, ⟨⟨_, Heap.get?_push_size _ rfl, rfl, rfl⟩, ht.at fun o e => Heap.get?_push_of_some _ e⟩, fun b hb => ?_, hn, CmpOf.ints_lt (numAt xs) (fun _ _ => intItems_at), fun v s' hP hm => ?_⟩
  · rcases List.mem_cons.mp hb with rfl | hb
    · exact Heap.lt_size (Heap.get?_push_size _ rfl)
    · obtain rfl := List.mem_singleton.mp hb
      exact Heap.lt_size (Heap.get?_push_of_some _ ho)
  · obtain ⟨h', g', d', tk', os'⟩ := s'
    have e1 : g' = s.gens := hm.gens
    have e2 : d' = s.drawn := hm.drawn
    have e3 : os' = s.os := hm.os
    subst e1 e2 e3
    exact h v h' tk' (intItems_at hP) fun b o e => hm.heap b o (fun hb => absurd (Heap.lt_size e) ((List.mem_singleton.mp hb) ▸ Nat.lt_irrefl _)) (Heap.get?_push_of_some _ e)
theorem z_max_tup {t : Addr} {xs : Array (Int × Tok)} {Q : Value → Shared → Prop} (hh : A.handled = none) (ht : s.heap.IsTuple t (intItems xs)) (hn : 0 < xs.size)
    (h : ∀ v h' tk, (∃ t', v = .int (numAt xs (argBest (fun j k => decide (numAt xs k < numAt xs j)) (xs.size - 1))) t') → (∀ b o, s.heap.get? b = some o → h'.get? b = some o) → Q v { s with heap := h', toks := tk }) :
    wpAny (model prog w) A (call (.builtin "max") [.ref t]) Q E s := by
  obtain ⟨o, ho, hc, n, hd⟩ := id ht
  have hne : t ≠ s.heap.objs.size := Nat.ne_of_lt (Heap.lt_size ho)
  have hsz : (intItems xs).size = xs.size := by simp [intItems]
  have W := (Walks.tuple (prog := prog) (w := w) (A := A.in1) hh s.heap.objs.size t hne (intItems xs)).toS
  rw [hsz] at W
  refine call_max_walkS (wpAny_pyIter_tuple ht ?_)
  refine ⟨s.heap.objs.size, _, _, _, _, _, _, _, rfl, W, ⟨⟨_, Heap.get?_push_size _ rfl, rfl, rfl⟩, ht.at fun o e => Heap.get?_push_of_some _ e⟩, fun b hb => ?_, hn, CmpOf.ints_gt (numAt xs) (fun _ _ => intItems_at), fun v s' hP hm => ?_⟩
  · rcases List.mem_cons.mp hb with rfl | hb
    · exact Heap.lt_size (Heap.get?_push_size _ rfl)
    · obtain rfl := List.mem_singleton.mp hb
      exact Heap.lt_size (Heap.get?_push_of_some _ ho)
  · obtain ⟨h', g', d', tk', os'⟩ := s'
    have e1 : g' = s.gens := hm.gens
    have e2 : d' = s.drawn := hm.drawn
    have e3 : os' = s.os := hm.os
    subst e1 e2 e3
    exact h v h' tk' (intItems_at hP) fun b o e => hm.heap b o (fun hb => absurd (Heap.lt_size e) ((List.mem_singleton.mp hb) ▸ Nat.lt_irrefl _)) (Heap.get?_push_of_some _ e)
end
end PySem
namespace Z
open PySem PySem.Spec PyProof.Rows L2
def minI : List Int → Int
  | [] => 0
  | [x] => x
  | x :: y :: r => if x ≤ minI (y :: r) then x else minI (y :: r)
def maxI : List Int → Int
  | [] => 0
  | [x] => x
  | x :: y :: r => if maxI (y :: r) ≤ x then x else maxI (y :: r)
theorem minI_mem : ∀ {ns : List Int}, ns ≠ [] → minI ns ∈ ns
  | [], h => absurd rfl h
  | [x], _ => by simp [minI]
  | x :: y :: r, _ => by
    have := minI_mem (ns := y :: r) (by simp)
    unfold minI
    split
    · exact List.mem_cons_self
    · exact List.mem_cons_of_mem _ this
theorem minI_le : ∀ {ns : List Int}, ∀ a ∈ ns, minI ns ≤ a
  | [], a, h => by cases h
  | [x], a, h => by simp at h; subst h; exact Int.le_refl _
  | x :: y :: r, a, h => by
    have ih := minI_le (ns := y :: r)
    unfold minI
    rcases List.mem_cons.mp h with rfl | h
    · split <;> omega
    · have := ih a h
      split <;> omega
theorem maxI_mem : ∀ {ns : List Int}, ns ≠ [] → maxI ns ∈ ns
  | [], h => absurd rfl h
  | [x], _ => by simp [maxI]
  | x :: y :: r, _ => by
    have := maxI_mem (ns := y :: r) (by simp)
    unfold maxI
    split
    · exact List.mem_cons_self
    · exact List.mem_cons_of_mem _ this
theorem maxI_le : ∀ {ns : List Int}, ∀ a ∈ ns, a ≤ maxI ns
  | [], a, h => by cases h
  | [x], a, h => by simp at h; subst h; exact Int.le_refl _
  | x :: y :: r, a, h => by
    have ih := maxI_le (ns := y :: r)
    unfold maxI
    rcases List.mem_cons.mp h with rfl | h
    · split <;> omega
    · have := ih a h
      split <;> omega
theorem minI_eq {ns : List Int} {m : Int} (h1 : m ∈ ns) (h2 : ∀ a ∈ ns, m ≤ a) : m = minI ns := Int.le_antisymm (h2 _ (minI_mem (List.ne_nil_of_mem h1))) (minI_le m h1)
theorem maxI_eq {ns : List Int} {m : Int} (h1 : m ∈ ns) (h2 : ∀ a ∈ ns, a ≤ m) : m = maxI ns := Int.le_antisymm (maxI_le m h1) (h2 _ (maxI_mem (List.ne_nil_of_mem h1)))
section
variable {prog : Program} {w : World} {A : Around} {E : Value → Shared → Prop} {s : Shared} {l : Addr} {its : List Value} {ns : List Int} {Q : Value → Shared → Prop}
theorem min_rawT (hh : A.handled = none) (hl : s.heap.IsTuple l its.toArray) (hi : IntsAre its ns) (hne : 0 < ns.length)
    (h : ∀ h' tk t', (∀ b o, s.heap.get? b = some o → h'.get? b = some o) → Q (.int (minI ns) t') { s with heap := h', toks := tk }) : wpAny (model prog w) A (call (.builtin "min") [.ref l]) Q E s := by
  obtain ⟨xs, e⟩ := hi.allInts.items
  have hn : numsOf (intItems xs).toList = ns := by rw [← e]; exact hi.numsOf
  rw [nums_intItems] at hn
  subst hn
  rw [e] at hl
  have hsz : 0 < xs.size := by simpa using hne
  refine z_min_tup hh hl hsz fun v h' tk hv hk => ?_
  obtain ⟨t, rfl⟩ := hv
  obtain ⟨h1, h2⟩ := argBest_lt (numAt xs) (xs.size - 1)
  rw [minI_eq (m := numAt xs (argBest (fun j k => decide (numAt xs j < numAt xs k)) (xs.size - 1))) (ns := xs.toList.map (·.1)) ?_ ?_]
  · exact h h' tk t hk
  · rw [numAt_eq]; exact PySem.getD_mem (by rw [List.length_map, Array.length_toList]; omega)
  · intro a ha
    obtain ⟨j, hj, rfl⟩ := mem_getD ha
    rw [List.length_map, Array.length_toList] at hj
    rw [← numAt_eq]; exact h2 j (by omega)
theorem max_rawT (hh : A.handled = none) (hl : s.heap.IsTuple l its.toArray) (hi : IntsAre its ns) (hne : 0 < ns.length)
    (h : ∀ h' tk t', (∀ b o, s.heap.get? b = some o → h'.get? b = some o) → Q (.int (maxI ns) t') { s with heap := h', toks := tk }) : wpAny (model prog w) A (call (.builtin "max") [.ref l]) Q E s := by
  obtain ⟨xs, e⟩ := hi.allInts.items
  have hn : numsOf (intItems xs).toList = ns := by rw [← e]; exact hi.numsOf
  rw [nums_intItems] at hn
  subst hn
  rw [e] at hl
  have hsz : 0 < xs.size := by simpa using hne
  refine z_max_tup hh hl hsz fun v h' tk hv hk => ?_
  obtain ⟨t, rfl⟩ := hv
  obtain ⟨h1, h2⟩ := argBest_gt (numAt xs) (xs.size - 1)
  rw [maxI_eq (m := numAt xs (argBest (fun j k => decide (numAt xs k < numAt xs j)) (xs.size - 1))) (ns := xs.toList.map (·.1)) ?_ ?_]
  · exact h h' tk t hk
  · rw [numAt_eq]; exact PySem.getD_mem (by rw [List.length_map, Array.length_toList]; have := h1; simp only [gt_iff_lt] at this; omega)
  · intro a ha
    obtain ⟨j, hj, rfl⟩ := mem_getD ha
    rw [List.length_map, Array.length_toList] at hj
    rw [← numAt_eq]; exact h2 j (by omega)
end
def rMinA (K : PySem.W.Frag) : List V → Hp → VK → Prop := fun vs H Q => ∃ (a : Addr) (ns : List Int), vs = [V.ref a] ∧ (SqL K H a (ns.map V.int) ∨ SqT K H a (ns.map V.int)) ∧ 0 < ns.length ∧ Q (.int (minI ns)) H
def rMaxA (K : PySem.W.Frag) : List V → Hp → VK → Prop := fun vs H Q => ∃ (a : Addr) (ns : List Int), vs = [V.ref a] ∧ (SqL K H a (ns.map V.int) ∨ SqT K H a (ns.map V.int)) ∧ 0 < ns.length ∧ Q (.int (maxI ns)) H
theorem cr_minA {X : Cx} (hc : X.calm = true) : CallR X (.builtin "min") (rMinA X.K) := by
  intro pins s σ H vs us Q I r h
  obtain ⟨a, ns, rfl, hs, hne, q⟩ := h
  rcases hs with hs | hs
  · exact cr_min hc pins s σ H _ us Q I r ⟨a, ns, rfl, hs, hne, fun m h1 h2 => by rw [minI_eq h1 h2]; exact q⟩
  · obtain ⟨its, rv, hl, _⟩ := I.tuple hs
    rw [Vals.ref1 r]
    exact min_rawT (I.ok.hd hc) (show s.heap.IsTuple a its.toArray from hl) rv.ints hne fun h' tk t' hk => ⟨.int _, H, I.kept hk, ⟨_, rfl⟩, q⟩
theorem cr_maxA {X : Cx} (hc : X.calm = true) : CallR X (.builtin "max") (rMaxA X.K) := by
  intro pins s σ H vs us Q I r h
  obtain ⟨a, ns, rfl, hs, hne, q⟩ := h
  rcases hs with hs | hs
  · exact cr_max hc pins s σ H _ us Q I r ⟨a, ns, rfl, hs, hne, fun m h1 h2 => by rw [maxI_eq h1 h2]; exact q⟩
  · obtain ⟨its, rv, hl, _⟩ := I.tuple hs
    rw [Vals.ref1 r]
    exact max_rawT (I.ok.hd hc) (show s.heap.IsTuple a its.toArray from hl) rv.ints hne fun h' tk t' hk => ⟨.int _, H, I.kept hk, ⟨_, rfl⟩, q⟩
section
variable {ι : Type} {X : ι → Cx} {K : PySem.W.Frag} {T : List Addr} {W : WX} {N : List Str} {S : Store}
def numsR (f : List Int → Int) (ys : List EV) (S : Store) : Res EV := match intsOf ys with
  | some ns => if 0 < ns.length then .ok (.d (.int (f ns))) S else .bad
  | none => .bad
def gMM (f : List Int → Int) : List EV → Store → Res EV := fun xs S => match xs with
  | [x] => match itemsLS S x with
    | some ys => numsR f ys S
    | none => match itemsT x with
      | some ys => numsR f ys S
      | none => .bad
  | _ => .bad
theorem mm_H {f : List Int → Int} {P : Addr → Prop} {S : Store} {H : Hp} {m : Nat → Addr} {σ : L2.St} {xs : List EV} {vs : List V} {Q : VK} (w : Wd K P S H m T) (r : RpL K P S H m vs xs) (h : Post K T P (RelE K P) S H m σ W (gMM f xs S) Q) :
    ∃ (a : Addr) (ns : List Int), vs = [V.ref a] ∧ (SqL K H a (ns.map V.int) ∨ SqT K H a (ns.map V.int)) ∧ 0 < ns.length ∧ Q (.int (f ns)) H := by
  unfold gMM at h
  split at h
  · obtain ⟨v, rfl, rv⟩ := rpl_one r
    split at h
    · rename_i ys q
      obtain ⟨a, us, rfl, hs, rl⟩ := itemsLS_H w rv q
      unfold numsR at h
      split at h
      · rename_i ns q2
        have e := intsOf_rp q2 rl
        subst e
        split at h
        · rename_i hp
          exact ⟨a, ns, rfl, .inl hs, hp, Post.done (Rel := RelE K P) w h (Dq.int _)⟩
        · exact h.elim
      · exact h.elim
    · split at h
      · rename_i ys q
        obtain ⟨a, o, us, rfl, hs, _, rl⟩ := itemsT_H rv q
        unfold numsR at h
        split at h
        · rename_i ns q2
          have e := intsOf_rp q2 rl
          subst e
          split at h
          · rename_i hp
            exact ⟨a, ns, rfl, .inr (sqT_frz hs), hp, Post.done (Rel := RelE K P) w h (Dq.int _)⟩
          · exact h.elim
        · exact h.elim
      · exact h.elim
  · exact h.elim
theorem cd_min1 (F : Fam X K N) : CallD X K T (.builtin "min") (gMM minI) :=
  ⟨rMinA K, fun i => by have := cr_minA (X := X i) (F.calm i); rw [F.K i] at this; exact this, fun P S H m σ W xs vs Q w r h => mm_H w r h⟩
theorem cd_max1 (F : Fam X K N) : CallD X K T (.builtin "max") (gMM maxI) :=
  ⟨rMaxA K, fun i => by have := cr_maxA (X := X i) (F.calm i); rw [F.K i] at this; exact this, fun P S H m σ W xs vs Q w r h => mm_H w r h⟩
theorem mm_tup {f : List Int → Int} {ns : List Int} (h : 0 < ns.length) : gMM f [.d (.tuple (ns.map .int))] S = .ok (.d (.int (f ns))) S := by
  have := intsOf_ints ns
  simp [gMM, numsR, this, h]
theorem mm_list {f : List Int → Int} {ns : List Int} (h : 0 < ns.length) : gMM f [.d (.list (ns.map .int))] S = .ok (.d (.int (f ns))) S := by
  have := intsOf_ints ns
  simp [gMM, numsR, this, h]
end
end Z
set_option maxRecDepth 100000
set_option maxHeartbeats 4000000
/-! Z28: l.index(x), l.count(x), t.count(x). -/
namespace Z
open PySem PySem.Spec PyProof.Rows L2
/-- how many are equal -/
def rCountT (K : PySem.W.Frag) : V → List V → Hp → VK → Prop := fun x xs H Q => ∃ (a : Addr) (o : Obj) (vs : List V) (y : V) (d : PyData) (ds : List PyData), x = V.ref a ∧ xs = [y] ∧ H a = some (.frz o (.tup vs)) ∧ o.dict = none ∧ DpAll K H vs ds ∧ Dp K H y d ∧
  SeqAt.shaped (.tuple ds) = true ∧ SeqAt.shaped d = true ∧ Q (.int (ds.countP fun z => PyData.eqv z d : Nat)) H
theorem mt_countT {X : Cx} (hu : X.A.units + 65 < cLine) : MtR X "tuple.count" (rCountT X.K) := by
  intro pins s σ H x xs v us Q I rx rxs h
  obtain ⟨a, o, vs, y, d, ds, rfl, rfl, hq, hdn, ha, hy, sl, sd, q⟩ := h
  cases rx
  cases rxs with
  | cons ry rt =>
    rename_i uy ut
    cases rt
    obtain ⟨bs, r1⟩ := Dp.reads I d y uy hy ry
    have hxs : PyData.canLayAll0 ds = true := SeqAt.canLay_of_shaped sl
    have hroom : X.A.units + 1 + min (PyData.depthAll ds) d.depth < cLine := room_in_shaped sd hu
    obtain ⟨its, rv, ⟨⟨cls, dd, data, sls⟩, ho, hc, n, hdt⟩, hlen⟩ := I.tuple (sqT_frz (K := X.K) hq)
    simp only at hc hdt
    subst hc hdt
    obtain ⟨as, h4⟩ := Dp.readsAll I ds _ its ha rv
    have hmap : its.map (SeqAt.readOf s.heap) = ds := SeqAt.readsAll_map ds its as hxs h4
    refine call_meets PySem.F.slot_tuple_count ⟨_, ho, rfl⟩ PySem.F.entry_tuple_count (PySem.F.args_tuple_count_2 _ _)
      (SeqAt.tuple_countAt a its.toArray n dd sls uy (fun u => PyData.eqv (SeqAt.readOf s.heap u) d)) ⟨ho, SeqAt.items_eqAt (vs := its.toArray) (show ReadsAll s.heap its.toArray.toList ds as from h4) r1 hxs (SeqAt.canLay_of_shaped sd) hroom, ?_⟩
    rw [show its.toArray.toList.countP (fun u => PyData.eqv (SeqAt.readOf s.heap u) d) = ds.countP (fun z => PyData.eqv z d) by rw [← hmap, List.countP_map]; rfl]
    exact ⟨.int (ds.countP fun z => PyData.eqv z d : Nat), H, I.tok _, ⟨_, rfl⟩, q⟩
def rCountD (K : PySem.W.Frag) : V → List V → Hp → VK → Prop := fun x xs H Q => ∃ (a : Addr) (y : V) (d : PyData) (ds : List PyData), x = V.ref a ∧ xs = [y] ∧ Dp K H (V.ref a) (.list ds) ∧ Dp K H y d ∧
  SeqAt.shaped (.list ds) = true ∧ SeqAt.shaped d = true ∧ Q (.int (ds.countP fun z => PyData.eqv z d : Nat)) H
theorem mt_countD {X : Cx} (hu : X.A.units + 65 < cLine) : MtR X "list.count" (rCountD X.K) := by
  intro pins s σ H x xs v us Q I rx rxs h
  obtain ⟨a, y, d, ds, rfl, rfl, hl, hy, sl, sd, q⟩ := h
  cases rx
  cases rxs with
  | cons ry rt =>
    rename_i uy ut
    cases rt
    obtain ⟨bs, r1⟩ := Dp.reads I d y uy hy ry
    have hxs : PyData.canLayAll0 ds = true := SeqAt.canLay_of_shaped sl
    have hroom : X.A.units + 1 + min (PyData.depthAll ds) d.depth < cLine := room_in_shaped sd hu
    cases hl with
    | lst hs ha =>
      obtain ⟨its, rv, ⟨⟨cls, dd, data, sls⟩, n, ho, hc, hdn, hdt⟩, hlen⟩ := I.list hs
      simp only at hc hdt
      subst hc hdt
      obtain ⟨as, h4⟩ := Dp.readsAll I ds _ its ha rv
      have hmap : its.map (SeqAt.readOf s.heap) = ds := SeqAt.readsAll_map ds its as hxs h4
      refine call_meets PySem.F.slot_list_count ⟨_, ho, rfl⟩ PySem.F.entry_list_count (PySem.F.args_list_count_2 _ _)
        (SeqAt.list_countAt a its.toArray n dd sls uy (fun u => PyData.eqv (SeqAt.readOf s.heap u) d)) ⟨ho, SeqAt.items_eqAt (vs := its.toArray) (show ReadsAll s.heap its.toArray.toList ds as from h4) r1 hxs (SeqAt.canLay_of_shaped sd) hroom, ?_⟩
      rw [show its.toArray.toList.countP (fun u => PyData.eqv (SeqAt.readOf s.heap u) d) = ds.countP (fun z => PyData.eqv z d) by rw [← hmap, List.countP_map]; rfl]
      exact ⟨.int (ds.countP fun z => PyData.eqv z d : Nat), H, I.tok _, ⟨_, rfl⟩, q⟩
section
variable {ι : Type} {X : ι → Cx} {K : PySem.W.Frag} {T : List Addr} {W : WX} {N : List Str}
variable {a b c e tg : Expr} {fa fb fc f : EF} {ba bb : BF} {pos : Pos} {es tgs : List Expr} {fs : AF} {g : GF} {gs : GsF} {ws us : List Nat} {n : Nat}
variable {P : Addr → Prop} {S : Store} {H : Hp} {m : Nat → Addr} {σ : L2.St} {st : Stmt} {sts : List Stmt} {sf sg sh : SF}
def gCntL : EV → List EV → Store → Res EV := fun x ys S => match x, ys with
  | .d (.list ds), [.d d] => if SeqAt.shaped (.list ds) = true ∧ SeqAt.shaped d = true then .ok (.d (.int (ds.countP fun z => PyData.eqv z d : Nat))) S else .bad
  | _, _ => .bad
def gIdxL : EV → List EV → Store → Res EV := fun x ys S => match x, ys with
  | .d (.list ds), [.d d] => if SeqAt.shaped (.list ds) = true ∧ SeqAt.shaped d = true then match idxOf d ds 0 with
    | some j => .ok (.d (.int (j : Nat))) S
    | none => .bad else .bad
  | _, _ => .bad
theorem mtd_countL (F : Fam X K N) : MtD X K T "list.count" gCntL := by
  refine ⟨rCountD K, fun i => by have := mt_countD (F.hu i); rw [F.K i] at this; exact this, fun P S H m σ W x xs v vs Q w r1 r2 h => ?_⟩
  unfold gCntL at h
  split at h
  · rename_i ds d
    split at h
    · rename_i hsd
      obtain ⟨u, rfl, ru⟩ := rpl_one r2
      have h1 : Dq H (LP P S m) v (.list ds) := r1
      cases r1 with
      | lst g nn q =>
        exact ⟨_, u, d, ds, rfl, rfl, Dq.dp h1 (SeqAt.canLay_of_shaped hsd.1), Dq.dp ru (SeqAt.canLay_of_shaped hsd.2), hsd.1, hsd.2, Post.done (Rel := RelE K P) w h (Dq.int _)⟩
    · exact h.elim
  · exact h.elim
theorem mtd_indexL (F : Fam X K N) : MtD X K T "list.index" gIdxL := by
  refine ⟨rIndexD K, fun i => by have := mt_indexD (F.hu i); rw [F.K i] at this; exact this, fun P S H m σ W x xs v vs Q w r1 r2 h => ?_⟩
  unfold gIdxL at h
  split at h
  · rename_i ds d
    split at h
    · rename_i hsd
      split at h
      · rename_i j ej
        obtain ⟨i, z, e2, e3, e4, e5⟩ := idxOf_some ej
        have e2' : j = i := by omega
        subst e2'
        obtain ⟨u, rfl, ru⟩ := rpl_one r2
        have h1 : Dq H (LP P S m) v (.list ds) := r1
        cases r1 with
        | lst g nn q =>
          exact ⟨_, u, d, ds, j, z, rfl, rfl, Dq.dp h1 (SeqAt.canLay_of_shaped hsd.1), Dq.dp ru (SeqAt.canLay_of_shaped hsd.2), hsd.1, hsd.2, e3, e4, e5, Post.done (Rel := RelE K P) w h (Dq.int _)⟩
      · exact h.elim
    · exact h.elim
  · exact h.elim
def tCntT (K : PySem.W.Frag) (to te : TE) : TE := fun σ H Q => to σ H fun x H1 => (∃ a o vs, x = V.ref a ∧ H1 a = some (.frz o (.tup vs)) ∧ o.dict = none) ∧ tCons te tNil σ H1 fun xs H2 => rCountT K x xs H2 Q
theorem slot_tc : Slot "tuple" "count" "tuple.count" := PySem.F.slot_tuple_count
theorem pe_cntT {X : Cx} {o e : Expr} {to te : TE} {ap pos : Pos} (hu : X.A.units + 65 < cLine) (hpa : PlainAttrs "tuple") (hty : typeOf (.builtin "tuple.count") = pure (.type "method_descriptor")) (ho : PE X o to) (he : PE X e te)
    (hbase : attributeBase o "count" X.env (eval o X.env) = eval o X.env) (hfew : ((backTo pos (starEach [e] X.env)).all (fun x => !x.1) && (backToKw pos (keywordEach [] X.env)).all (fun x => x.1.isSome)
      && decide ([e].length + ([] : List Keyword).length + (if ([] : List Keyword).isEmpty then 0 else 1) < 30)) = true)
    (hline : (ap.endLine == pos.line) = true) (hs : starEach [e] X.env = (false, eval e X.env) :: starEach [] X.env) (hplain : (backTo pos (starEach [] X.env)).any (·.1) = false) :
    PE X (.Call (.Attribute o "count" ap) [e] [] pos) (tCntT X.K to te) := by
  refine ⟨fun pins s σ H Q I h => ?_⟩
  refine wpAny_Call_method_late hbase hfew hline rfl (thn (ho.run pins s σ H _ I h) fun v s1 ⟨x, H1, I1, r1, ⟨a, o, vs, ex, hq, hd⟩, q1⟩ => ?_)
  subst ex
  cases r1
  obtain ⟨hob, z, its, rv, ⟨o', ho', hc, n, hdt⟩⟩ := I1.hok a _ hq
  rw [hob] at ho'
  cases ho'
  refine ⟨"tuple", "tuple.count", hpa, slot_tc, hty, ⟨o, hob, hc⟩, fun b eb => ?_, ?_⟩
  · cases eb
    exact ⟨o, hob, hd⟩
  have hA := (pa_cons he pa_nil hs).run pos pins s1 σ H1 _ I1 q1
  rw [hs] at hA ⊢
  refine Calls.callWith_builtin (by show (false || (backTo pos (starEach [] X.env)).any (·.1)) = false; rw [hplain] <;> rfl) (Calls.evalArgs_plain ?_)
  exact thn hA fun us s2 ⟨vs, H2, I2, r2, q2⟩ => mt_countT hu pins s2 σ H2 (V.ref a) vs (.ref a) us Q I2 rfl r2 q2
def gCntT : EV → EV → Store → Res EV := fun x y S => match x, y with
  | .d (.tuple ds), .d d => if SeqAt.shaped (.tuple ds) = true ∧ SeqAt.shaped d = true then .ok (.d (.int (ds.countP fun z => PyData.eqv z d : Nat))) S else .bad
  | _, _ => .bad
def cntF (fo f : EF) : EF := fun ρ S => (fo ρ S).bind fun x S1 => match x with
  | .d (.tuple ds) => (f ρ S1).bind fun y S2 => gCntT (.d (.tuple ds)) y S2
  | _ => .bad
theorem de_cntT (F : Fam X K N) {o : Expr} {fo : EF} {ap : Pos} (ho : DE X K T W o fo) (he : DE X K T W e f)
    (hbase : ∀ i, attributeBase o "count" (X i).env (eval o (X i).env) = eval o (X i).env := by intro _; rfl)
    (hfew : ∀ i, ((backTo pos (starEach [e] (X i).env)).all (fun x => !x.1) && (backToKw pos (keywordEach [] (X i).env)).all (fun x => x.1.isSome)
      && decide ([e].length + ([] : List Keyword).length + (if ([] : List Keyword).isEmpty then 0 else 1) < 30)) = true := by intro _; rfl)
    (hline : (ap.endLine == pos.line) = true := by rfl) (hs : ∀ i, starEach [e] (X i).env = (false, eval e (X i).env) :: starEach [] (X i).env := by intro _; rfl) (hplain : ∀ i, (backTo pos (starEach [] (X i).env)).any (·.1) = false := by intro _; rfl) :
    DE X K T W (.Call (.Attribute o "count" ap) [e] [] pos) (cntF fo f) := by
  obtain ⟨to, po, hO⟩ := ho.ex
  obtain ⟨t, pt, ht⟩ := he.ex
  refine ⟨tCntT K to t, fun i => by have := pe_cntT (F.hu i) PySem.F.plainAttrs_tuple PySem.F.type_tuple_count (po i) (pt i) (hbase i) (hfew i) hline (hs i) (hplain i); rw [F.K i] at this; exact this, fun P ρ S H m σ Q w er h => ?_⟩
  refine hO P ρ S H m σ _ w er (Post.step h fun S1 H1 m1 v x t1 w1 r1 h1 => ?_)
  split at h1
  · rename_i ds
    cases r1 with
    | tup g dn nn q =>
      refine ⟨⟨_, _, _, rfl, g, dn⟩, ht P ρ S1 H1 m1 σ _ w1 (er.to t1) (Post.step h1 fun S2 H2 m2 u y t2 w2 r2 h2 => ?_)⟩
      have r1' : Dq H2 (LP P S2 m2) _ (.tuple ds) := t2.dq (Dq.tup g dn nn q)
      show rCountT K _ [u] H2 Q
      unfold gCntT at h2
      split at h2
      · rename_i ds' d e1
        cases e1
        split at h2
        · rename_i hsd
          cases r1' with
          | tup g' dn' nn' q' =>
            exact ⟨_, _, _, u, d, ds, rfl, rfl, g', dn', DqAll.dpA q' (SeqAt.canLay_of_shaped hsd.1), Dq.dp r2 (SeqAt.canLay_of_shaped hsd.2), hsd.1, hsd.2, Post.done (Rel := RelE K P) w2 h2 (Dq.int _)⟩
        · exact h2.elim
      · exact h2.elim
  · exact h1.elim

/-! ### a op b op c -/
def chainF (q q' : EV → EV → Store → Res EV) (fa fb fc : EF) : EF := fun ρ S => (fa ρ S).bind fun x S1 => (fb ρ S1).bind fun y S2 => (q x y S2).bind fun z S3 => match z with
  | .d (.bool true) => (fc ρ S3).bind fun w S4 => q' y w S4
  | .d (.bool false) => .ok (.d (.bool false)) S3
  | _ => .bad
theorem chain_run {q q' : EV → EV → Store → Res EV} {ρ : Rho} {Q : VK} {ta tb tc : TE} {r r' : R2}
    (ha : ∀ P ρ S H m σ Q, Wd K P S H m T → EnvR K P S H m ρ σ → Post K T P (RelE K P) S H m σ W (fa ρ S) Q → ta σ H Q)
    (hb : ∀ P ρ S H m σ Q, Wd K P S H m T → EnvR K P S H m ρ σ → Post K T P (RelE K P) S H m σ W (fb ρ S) Q → tb σ H Q)
    (hc : ∀ P ρ S H m σ Q, Wd K P S H m T → EnvR K P S H m ρ σ → Post K T P (RelE K P) S H m σ W (fc ρ S) Q → tc σ H Q)
    (hr : ∀ P S H m σ W x y v u Q, Wd K P S H m T → Rp K P S H m v x → Rp K P S H m u y → Post K T P (RelE K P) S H m σ W (q x y S) Q → r v u H Q)
    (hr' : ∀ P S H m σ W x y v u Q, Wd K P S H m T → Rp K P S H m v x → Rp K P S H m u y → Post K T P (RelE K P) S H m σ W (q' x y S) Q → r' v u H Q)
    (w : Wd K P S H m T) (er : EnvR K P S H m ρ σ) (h : Post K T P (RelE K P) S H m σ W (chainF q q' fa fb fc ρ S) Q) : tChain r r' ta tb tc σ H Q := by
  refine ha P ρ S H m σ _ w er (Post.step h fun S1 H1 m1 v x t1 w1 r1 h1 => ?_)
  refine hb P ρ S1 H1 m1 σ _ w1 (er.to t1) (Post.step h1 fun S2 H2 m2 u y t2 w2 r2 h2 => ?_)
  refine hr P S2 H2 m2 σ W x y v u _ w2 (t2.rp r1) r2 (Post.step h2 fun S3 H3 m3 k z t3 w3 r3 h3 => ?_)
  split at h3
  · cases r3
    refine ⟨true, rfl, ?_⟩
    rw [if_pos rfl]
    refine hc P ρ S3 H3 m3 σ _ w3 (((er.to t1).to t2).to t3) (Post.step h3 fun S4 H4 m4 u' y' t4 w4 r4 h4 => ?_)
    exact hr' P S4 H4 m4 σ W y y' u u' Q w4 (t4.rp (t3.rp r2)) r4 h4
  · cases r3
    refine ⟨false, rfl, ?_⟩
    rw [if_neg (by decide)]
    exact Post.done (Rel := RelE K P) w3 h3 (Dq.bl _)
  · exact h3.elim
theorem de_chain {op op' : CmpOp} {q q' : EV → EV → Store → Res EV} (o : OpD X K T (compareOp op) q) (o' : OpD X K T (compareOp op') q') (ha : DE X K T W a fa) (hb : DE X K T W b fb) (hc : DE X K T W c fc) (hm : lastMarks [op, op'] [b, c] = false := by with_unfolding_all rfl) :
    DE X K T W (.Compare a [op, op'] [b, c] pos) (chainF q q' fa fb fc) := by
  obtain ⟨r, pr, hr⟩ := o.ex
  obtain ⟨r', pr', hr'⟩ := o'.ex
  obtain ⟨ta, pa, hA⟩ := ha.ex
  obtain ⟨tb, pb, hB⟩ := hb.ex
  obtain ⟨tc, pc, hC⟩ := hc.ex
  exact ⟨tChain r r' ta tb tc, fun i => pe_chain (pr i) (pr' i) (pa i) (pb i) (pc i) hm, fun P ρ S H m σ Q w er h => chain_run hA hB hC hr hr' w er h⟩
theorem dt_chain {op op' : CmpOp} {q q' : EV → EV → Store → Res EV} (o : OpD X K T (compareOp op) q) (o' : OpD X K T (compareOp op') q') (ha : DE X K T W a fa) (hb : DE X K T W b fb) (hc : DE X K T W c fc) (hm : lastMarks [op, op'] [b, c] = false := by with_unfolding_all rfl) :
    DT X K T W (.Compare a [op, op'] [b, c] pos) (testF (chainF q q' fa fb fc)) := by
  obtain ⟨r, pr, hr⟩ := o.ex
  obtain ⟨r', pr', hr'⟩ := o'.ex
  obtain ⟨ta, pa, hA⟩ := ha.ex
  obtain ⟨tb, pb, hB⟩ := hb.ex
  obtain ⟨tc, pc, hC⟩ := hc.ex
  refine ⟨tTest (tChain r r' ta tb tc), fun i => pt_chain (pr i) (pr' i) (pa i) (pb i) (pc i) hm, fun P ρ S H m σ Q w er h => ?_⟩
  exact chain_run hA hB hC hr hr' w er (Post.step (Rel := RelE K P) h fun S1 H1 m1 v x t1 w1 r1 h1 => asB_inv w1 r1 h1)
@[simp] theorem e_chain {q q' : EV → EV → Store → Res EV} {ρ : Rho} : chainF q q' fa fb fc ρ S = (fa ρ S).bind fun x S1 => (fb ρ S1).bind fun y S2 => (q x y S2).bind fun z S3 => match z with
  | .d (.bool true) => (fc ρ S3).bind fun w S4 => q' y w S4
  | .d (.bool false) => .ok (.d (.bool false)) S3
  | _ => .bad := (rfl)
@[simp] theorem e_cnt {ρ : Rho} : cntF fa f ρ S = (fa ρ S).bind fun x S1 => match x with
  | .d (.tuple ds) => (f ρ S1).bind fun y S2 => gCntT (.d (.tuple ds)) y S2
  | _ => .bad := (rfl)
end
end Z
set_option maxRecDepth 100000
set_option maxHeartbeats 4000000
/-! Z29: lands, names, ends: what the laws have in common. -/
namespace Z
open PySem PySem.Spec PyProof.Rows L2
theorem perm_map_inv {α β : Type} {f : α → β} {g : β → α} (hg : ∀ a, g (f a) = a) {es : List β} {l : List α} (h : es.Perm (l.map f)) : ∃ ks : List α, es = ks.map f ∧ ks.Perm l := by
  refine ⟨es.map g, ?_, ?_⟩
  · rw [List.map_map]
    conv => lhs; rw [← List.map_id es]
    refine List.map_congr_left fun d hd => ?_
    obtain ⟨a, _, rfl⟩ := List.mem_map.mp (h.mem_iff.mp hd)
    simp [hg]
  · have := h.map g
    rwa [List.map_map, show g ∘ f = id from funext hg, List.map_id] at this
def signs : Str := "abcdefghijklmnopqrstuvwxyz0123456789"
def sg (i : Nat) : Nat := signs.cps.toList.getD i 0
theorem sg_at {i : Int} (h0 : 0 ≤ i) (h1 : i < 36) : atI signs.cps.toList i = some (sg i.toNat) := by
  have hl : signs.cps.toList.length = 36 := by decide +kernel
  rw [atI_int h0]
  unfold sg
  rw [List.getD_eq_getElem?_getD, List.getElem?_eq_getElem (show i.toNat < signs.cps.toList.length by omega)]
  rfl
theorem sg_ok : ∀ i, i < 36 → sg i < 128 := by decide +kernel
theorem sg_inj : ∀ i, i < 36 → ∀ j, j < 36 → sg i = sg j → i = j := by decide +kernel
theorem signs_len : signs.length ≤ sizeLine := small (by decide +kernel)
theorem ix_signs {S : Store} {i : Int} (h0 : 0 ≤ i) (h1 : i < 36) : gIx (.d (.str signs)) (.d (.int i)) S = .ok (.d (.str ⟨#[sg i.toNat]⟩)) S := gIx_str signs_len (sg_at h0 h1)
def PD (p : Str × Str) : PyData := .tuple [.str p.1, .str p.2]
abbrev VL (vs : List Str) : PyData := .list (vs.map .str)
def PsOk (vs : List Str) (ps : List (Str × Str)) : Prop := ∀ p ∈ ps, p.1 ∈ vs ∧ p.2 ∈ vs ∧ p.1 ≠ p.2
theorem PsOk.snoc {vs : List Str} {ps : List (Str × Str)} {p : Str × Str} (h : PsOk vs ps) (a : p.1 ∈ vs ∧ p.2 ∈ vs ∧ p.1 ≠ p.2) : PsOk vs (ps ++ [p]) := fun q hq => by
  rcases List.mem_append.mp hq with z | z
  · exact h q z
  · rw [List.mem_singleton.mp z]; exact a
section
variable {S S' : Store} {n p : Nat} {vs : List Str} {ps : List (Str × Str)}
theorem pd_snoc {a : Str × Str} : evs (ps.map PD) ++ [.d (PD a)] = evs ((ps ++ [a]).map PD) := by simp [evs]
theorem at_vs {k : Nat} (hk : k < vs.length) : atI (vs.map PyData.str) (k : Int) = some (.str vs[k]) := by rw [atI_nat]; simp [hk]
end
def RD (r : Str × Str × Str) : PyData := .tuple [.str r.1, .str r.2.1, .str r.2.2]
theorem rd_snoc {rs : List (Str × Str × Str)} {a : Str × Str × Str} : evs (rs.map RD) ++ [.d (RD a)] = evs ((rs ++ [a]).map RD) := by simp [evs]
structure LandOk (vs : List Str) (rs : List (Str × Str × Str)) : Prop where
  nd : vs.Nodup
  pos : 1 ≤ vs.length
  vl : vs.length ≤ 1000
  rl : rs.length ≤ 2000
  vok : ∀ v ∈ vs, PyData.strOk v = true
  nok : ∀ r ∈ rs, PyData.strOk r.1 = true
  ends : ∀ r ∈ rs, r.2.1 ∈ vs ∧ r.2.2 ∈ vs ∧ r.2.1 ≠ r.2.2
def LD (vs : List Str) (rs : List (Str × Str × Str)) : PyData := .tuple [.tuple (vs.map .str), .tuple (rs.map RD)]
theorem kit1 : kitB "int" "bool" = some false := by decide +kernel
theorem kit2 : kitB "int" "int" = some true := by decide +kernel
theorem kit3 : kitB "str" "bool" = some false := by decide +kernel
theorem kit4 : kitB "str" "int" = some false := by decide +kernel
theorem kit5 : kitB "str" "str" = some true := by decide +kernel
theorem kit6 : kitB "tuple" "bool" = some false := by decide +kernel
theorem kit7 : kitB "tuple" "int" = some false := by decide +kernel
theorem kit8 : kitB "tuple" "str" = some false := by decide +kernel
theorem kit9 : kitB "tuple" "tuple" = some true := by decide +kernel
theorem is_int {S : Store} {i : Int} : gIs false (.d (.int i)) (.d .none) S = .ok (.d (.bool false)) S := rfl
theorem is_str {S : Store} {i : Str} : gIs false (.d (.str i)) (.d .none) S = .ok (.d (.bool false)) S := rfl
theorem is_tup {S : Store} {i : List PyData} : gIs false (.d (.tuple i)) (.d .none) S = .ok (.d (.bool false)) S := rfl
inductive Sm : Nat → PyData → Prop
  | int (k : Nat) (i : Int) : Sm (k + 1) (.int i)
  | str (k : Nat) (x : Str) : PyData.strOk x = true → Sm (k + 1) (.str x)
  | tup (k : Nat) (ds : List PyData) : ds.length ≤ 10000 → (∀ d ∈ ds, Sm k d) → Sm (k + 1) (.tuple ds)
@[simp] theorem ty1 {i : Int} : tyName (.d (.int i)) = some "int" := rfl
@[simp] theorem ty2 {i : Str} : tyName (.d (.str i)) = some "str" := rfl
@[simp] theorem ty3 {i : List PyData} : tyName (.d (.tuple i)) = some "tuple" := rfl
def ED (e : Nat × Nat) : PyData := .tuple [.int (e.1 : Int), .int (e.2 : Int)]
def endsOf (vs : List Str) (rs : List (Str × Str × Str)) : List (Nat × Nat) := rs.map fun r => (vs.idxOf r.2.1, vs.idxOf r.2.2)
theorem idx_str (v : Str) : ∀ (vs : List Str) (j : Nat), v ∈ vs → idxOf (.str v) (vs.map .str) j = some (j + vs.idxOf v)
  | x :: r, j, h => by
    show (if PyData.eqv (.str x) (.str v) = true then some j else idxOf (.str v) (r.map .str) (j + 1)) = _
    have e : PyData.eqv (.str x) (.str v) = (x == v) := by simp only [PyData.eqv]
    rw [e, List.idxOf_cons]
    by_cases q : x == v
    · rw [if_pos q]; simp [q]
    · have hv : v ∈ r := by
        rcases List.mem_cons.mp h with z | z
        · exact absurd (by simp [z]) q
        · exact z
      rw [if_neg q, idx_str v r (j + 1) hv]
      simp [q]
      omega
theorem strs_can : ∀ vs : List Str, (∀ v ∈ vs, PyData.strOk v = true) → PyData.canLayAll0 (vs.map .str) = true
  | [], _ => rfl
  | v :: r, h => by
    show (PyData.canLay0 (.str v) && PyData.canLayAll0 (r.map .str)) = true
    rw [strs_can r fun x hx => h x (by simp [hx])]
    simp [PyData.canLay0, h v (by simp)]
theorem strs_depth : ∀ vs : List Str, PyData.depthAll (vs.map .str) = 0
  | [] => rfl
  | v :: r => by
    show max (PyData.depth (.str v)) (PyData.depthAll (r.map .str)) = 0
    rw [strs_depth r]
    simp [PyData.depth]
theorem strs_shaped {vs : List Str} (h : ∀ v ∈ vs, PyData.strOk v = true) : SeqAt.shaped (.tuple (vs.map .str)) = true := by
  show (PyData.canLayAll0 (vs.map .str) && decide (PyData.depthAll (vs.map .str) + 1 ≤ 64)) = true
  rw [strs_can vs h, strs_depth vs]
  rfl
section
variable {vs : List Str} {rs : List (Str × Str × Str)} {S : Store} {L : List Nat}
theorem idx_run (L : LandOk vs rs) {v : Str} (hv : v ∈ vs) (S : Store) : gIdxT (.d (.tuple (vs.map .str))) (.d (.str v)) S = .ok (.d (.int (vs.idxOf v : Nat))) S := by
  have e := idx_str v vs 0 hv
  rw [Nat.zero_add] at e
  simp [gIdxT, strs_shaped L.vok, shaped_str (L.vok v hv), e]
theorem rd0 {r : Str × Str × Str} {i : Nat} : atI [PyData.str r.1, .str r.2.1, .str r.2.2] 0 = some (.str r.1) := rfl
theorem rd1 {r : Str × Str × Str} {i : Nat} : atI [PyData.str r.1, .str r.2.1, .str r.2.2] 1 = some (.str r.2.1) := rfl
theorem rd2 {r : Str × Str × Str} {i : Nat} : atI [PyData.str r.1, .str r.2.1, .str r.2.2] 2 = some (.str r.2.2) := rfl
theorem ld0 {a b : PyData} : atI [a, b] 0 = some a := rfl
theorem ld1 {a b : PyData} : atI [a, b] 1 = some b := rfl
def kvF : List Str → Nat → List (Key × PyData)
  | [], _ => []
  | w :: r, j => (.inr w, .int (j : Int)) :: kvF r (j + 1)
theorem kvF_len : ∀ (ws : List Str) (j : Nat), (kvF ws j).length = ws.length
  | [], _ => rfl
  | w :: r, j => by simp [kvF, kvF_len r]
theorem key_back : ∀ k : Key, keyOf (keyD k) = some k
  | .inl _ => rfl
  | .inr _ => rfl
theorem kvs_back : ∀ kv : List (Key × PyData), kvs_ (kvD kv) = some (kv.map fun p => (p.1, EV.d p.2))
  | [] => rfl
  | p :: r => by
    show (match keyOf (keyD p.1), kvs_ (kvD r) with | some k', some r' => some ((k', EV.d p.2) :: r') | _, _ => none) = _
    rw [key_back, kvs_back r]
    rfl
theorem klook_kvF (v : Str) : ∀ (ws : List Str) (j : Nat), v ∈ ws → klook ((kvF ws j).map fun p => (p.1, EV.d p.2)) (.inr v) = some (.d (.int ((j + ws.idxOf v : Nat) : Int)))
  | w :: r, j, h => by
    show (if (Sum.inr w : Key) = .inr v then some (EV.d (.int (j : Int))) else klook ((kvF r (j + 1)).map fun p => (p.1, EV.d p.2)) (.inr v)) = _
    rw [List.idxOf_cons]
    by_cases q : w = v
    · subst q; simp
    · have hv : v ∈ r := by
        rcases List.mem_cons.mp h with z | z
        · exact absurd z.symm q
        · exact z
      have q' : (Sum.inr w : Key) ≠ .inr v := fun z => q (by cases z; rfl)
      have q2 : (w == v) = false := by simp [q]
      rw [if_neg q', klook_kvF v r (j + 1) hv, q2]
      simp
      omega
theorem dct_ix {v : Str} {ws : List Str} (h : v ∈ ws) (S : Store) : gIx (.d (.dict (kvD (kvF ws 0)))) (.d (.str v)) S = .ok (.d (.int (ws.idxOf v : Nat))) S := by
  have e := klook_kvF v ws 0 h
  rw [Nat.zero_add] at e
  simp [gIx, gOr, gIxL, gIxT, gIxS, gIxD, itemsLS, itemsL, itemsS, itemsT, dictOf, kvs_back, keyOf, e]
theorem ends_lt (L : LandOk vs rs) : ∀ e ∈ endsOf vs rs, e.1 < vs.length ∧ e.2 < vs.length := fun e he => by
  obtain ⟨r, hr, rfl⟩ := List.mem_map.mp he
  obtain ⟨h1, h2, _⟩ := L.ends r hr
  exact ⟨List.idxOf_lt_length_iff.mpr h1, List.idxOf_lt_length_iff.mpr h2⟩
@[simp] theorem ld_0 : gIx (.d (LD vs rs)) (.d (.int 0)) S = .ok (.d (.tuple (vs.map .str))) S := by simp [LD, ld0]
@[simp] theorem ld_1 : gIx (.d (LD vs rs)) (.d (.int 1)) S = .ok (.d (.tuple (rs.map RD))) S := by simp [LD, ld1]
def nm (vs : List Str) (k : Nat) : Str := vs.getD k Str.empty
def NT (vs : List Str) (L : List Nat) : PyData := .tuple (L.map fun k => .str (nm vs k))
theorem nm_at {k : Nat} (hk : k < vs.length) : atI (vs.map PyData.str) (k : Int) = some (.str (nm vs k)) := atI_mapD _ _ hk
theorem nm_mem {k : Nat} (hk : k < vs.length) : nm vs k ∈ vs := by
  unfold nm
  rw [List.getD_eq_getElem?_getD, List.getElem?_eq_getElem hk]
  exact List.getElem_mem hk
theorem nm_idx (nd : vs.Nodup) {k : Nat} (hk : k < vs.length) : vs.idxOf (nm vs k) = k := by
  unfold nm
  rw [List.getD_eq_getElem?_getD, List.getElem?_eq_getElem hk]
  exact nd.idxOf_getElem k hk
theorem one_NI (L : List Nat) : (evs (NI L)).map Itm.one = L.map fun k : Nat => itI (k : Int) := one_map _ L
theorem en_range {α : Type} (f : α → PyData) (d : α) (xs : List α) : enL (xs.map f) 0 = (List.range xs.length).map fun k : Nat => Itm.row [.d (.int (k : Int)), .d (f (xs.getD k d))] := by
  rw [enL_map]
  apply List.ext_getElem?
  intro k
  by_cases hk : k < xs.length
  · simp [hk, List.getD_eq_getElem?_getD]
  · simp [hk]
theorem one_map2 {γ : Type} (f : γ → PyData) (cs : List γ) : (evs (cs.map f)).map Itm.one = cs.map fun c => itD (f c) := one_map f cs
end
end Z
set_option maxRecDepth 100000
set_option maxHeartbeats 4000000
/-! Z30: walks over lists that may change elsewhere: each step looks whether they are as they were. -/
namespace Z
open PySem PySem.Spec PyProof.Rows L2
/-- lists as they have to be -/
abbrev Gd := List (Nat × List EV)
def okG (S : Store) (c : Gd) : Prop := ∀ p ∈ c, S[p.1]? = some (.lst p.2)
noncomputable def chk (c : Gd) (S : Store) : Bool := @decide (okG S c) (Classical.propDecidable _)
theorem chk_iff {c : Gd} {S : Store} : chk c S = true ↔ okG S c := by unfold chk; simp
section
variable {ι : Type} {X : ι → Cx} {K : PySem.W.Frag} {T : List Addr} {W : WX} {N : List Str}
variable {a b c e tg : Expr} {fa fb fc f : EF} {ba bb : BF} {pos : Pos} {es tgs : List Expr} {fs : AF} {g : GF} {gs : GsF} {ws us : List Nat} {n : Nat}
variable {P : Addr → Prop} {S : Store} {H : Hp} {m : Nat → Addr} {σ : L2.St} {st : Stmt} {sts : List Stmt} {sf sg sh : SF}
def fixG : EV → Store → Option (List EV × Gd)
  | .own n, S => match S[n]? with
    | some (.lst xs) => some (xs, [(n, xs)])
    | _ => none
  | x, _ => (fixB x).map fun ds => (evs ds, [])
theorem fixG_H {v : V} {x : EV} {xs : List EV} {q : Gd} (w : Wd K P S H m T) (r : Rp K P S H m v x) (e : fixG x S = some (xs, q)) : ∃ (b : Bool) (a : Addr) (vs : List V), v = .ref a ∧ SqB b K H a vs ∧
    ∀ (P2 : Addr → Prop) (S2 : Store) (H2 : Hp) (m2 : Nat → Addr), (∀ a, P2 a → P a ∨ H a = none) → To P S H m S2 H2 m2 → Wd K P2 S2 H2 m2 T → okG S2 q → ∃ vs2, SqB b K H2 a vs2 ∧ RpL K P2 S2 H2 m2 vs2 xs := by
  have data : (fixB x).map (fun ds => (evs ds, ([] : Gd))) = some (xs, q) → ∃ (b : Bool) (a : Addr) (vs : List V), v = .ref a ∧ SqB b K H a vs ∧
    ∀ (P2 : Addr → Prop) (S2 : Store) (H2 : Hp) (m2 : Nat → Addr), (∀ a, P2 a → P a ∨ H a = none) → To P S H m S2 H2 m2 → Wd K P2 S2 H2 m2 T → okG S2 q → ∃ vs2, SqB b K H2 a vs2 ∧ RpL K P2 S2 H2 m2 vs2 xs := fun e => by
    cases q2 : fixB x with
    | none => rw [q2] at e; cases e
    | some ds =>
      rw [q2] at e
      cases e
      obtain ⟨b, a, vs, rfl, hq, hl, hk⟩ := fixB_H r q2
      exact ⟨b, a, vs, rfl, hq, fun P2 S2 H2 m2 hp t _ _ => ⟨vs, hk P2 S2 H2 m2 hp t⟩⟩
  cases x with
  | own n =>
    unfold fixG at e
    simp only at e
    split at e
    · rename_i ys hs
      cases e
      obtain ⟨rfl, hn⟩ := r
      obtain ⟨vs, g1, _⟩ := w.ok n _ hs
      refine ⟨true, m n, vs, rfl, .of g1, fun P2 S2 H2 m2 hp t w2 ok => ?_⟩
      have h2 := ok (n, xs) (by simp)
      obtain ⟨vs2, g2, r2⟩ := w2.ok n _ h2
      rw [t.ext n hn] at g2
      exact ⟨vs2, .of g2, r2⟩
    · cases e
  | d y => exact data e
  | scr y => exact data e
def WalkG (K : PySem.W.Frag) (T : List Addr) (P : Addr → Prop) (S : Store) (H : Hp) (m : Nat → Addr) (J : It) (its : List Itm) (q : Gd) : Prop :=
  ∀ (P2 : Addr → Prop) (S2 : Store) (H2 : Hp) (m2 : Nat → Addr) (i : Nat), (∀ a, P2 a → P a ∨ H a = none) → To P S H m S2 H2 m2 → Wd K P2 S2 H2 m2 T → okG S2 q →
    (its.length = i → J.stop i H2) ∧ ∀ it, its[i]? = some it → J.go i H2 ∧ ∀ x H3, J.yld i H2 x H3 → To P2 S2 H2 m2 S2 H3 m2 ∧ Wd K P2 S2 H3 m2 T ∧ RpI K P2 S2 H3 m2 x it
abbrev RelWG (K : PySem.W.Frag) (T : List Addr) (P : Addr → Prop) : Store → Hp → (Nat → Addr) → It → List Itm × Gd → Prop := fun S H m J its => WalkG K T P S H m J its.1 its.2
abbrev IFG := Rho → Store → Res (List Itm × Gd)
structure DIG (X : ι → Cx) (K : PySem.W.Frag) (T : List Addr) (W : WX) (tg e : Expr) (f : IFG) : Prop where
  ex : ∃ wi : TI, (∀ i, PI (X i) tg e wi) ∧ ∀ P ρ S H m σ R, Wd K P S H m T → EnvR K P S H m ρ σ → Post K T P (RelWG K T P) S H m σ W (f ρ S) R → wi σ H R
/-! ### what is walked -/
def seqIG (f : EF) : IFG := fun ρ S => (f ρ S).bind fun x S1 => match fixG x S1 with
  | some (xs, q) => .ok (xs.map .one, q) S1
  | none => .bad
theorem walk_seq {b : Bool} {a : Addr} {xs : List EV} {q : Gd} (hk : ∀ (P2 : Addr → Prop) (S2 : Store) (H2 : Hp) (m2 : Nat → Addr), (∀ a, P2 a → P a ∨ H a = none) → To P S H m S2 H2 m2 → Wd K P2 S2 H2 m2 T → okG S2 q → ∃ vs2, SqB b K H2 a vs2 ∧ RpL K P2 S2 H2 m2 vs2 xs) :
    WalkG K T P S H m (if b = true then Itl K a else Itt K a) (xs.map .one) q := by
  intro P2 S2 H2 m2 i hp t w ok
  obtain ⟨vs, h1, h2⟩ := hk P2 S2 H2 m2 hp t w ok
  cases b with
  | true =>
    refine ⟨fun hi => ⟨vs, h1, by rw [h2.length]; simpa using Nat.le_of_eq hi⟩, fun it hit => ?_⟩
    rw [List.getElem?_map] at hit
    cases q : xs[i]? with
    | none => rw [q] at hit; cases hit
    | some y =>
      rw [q] at hit
      cases hit
      obtain ⟨u, e1, e2⟩ := h2.get q
      refine ⟨⟨vs, u, h1, e1⟩, fun x H3 ⟨e3, y3⟩ => ?_⟩
      subst e3
      refine ⟨To.refl, w, ?_⟩
      have z := y3 vs h1
      rw [e1] at z
      cases z
      exact e2
  | false =>
    refine ⟨fun hi => ⟨vs, h1, by rw [h2.length]; simpa using Nat.le_of_eq hi⟩, fun it hit => ?_⟩
    rw [List.getElem?_map] at hit
    cases q : xs[i]? with
    | none => rw [q] at hit; cases hit
    | some y =>
      rw [q] at hit
      cases hit
      obtain ⟨u, e1, e2⟩ := h2.get q
      refine ⟨⟨vs, u, h1, e1⟩, fun x H3 ⟨e3, y3⟩ => ?_⟩
      subst e3
      refine ⟨To.refl, w, ?_⟩
      have z := y3 vs h1
      rw [e1] at z
      cases z
      exact e2
theorem dig_seq {tg : Expr} (F : Fam X K N) (he : DE X K T W e f) : DIG X K T W tg e (seqIG f) := by
  obtain ⟨t, pt, ht⟩ := he.ex
  refine ⟨iSeq K t, fun i => by have := pi_seq (tg := tg) (pt i); rw [F.K i] at this; exact this, fun P ρ S H m σ R w er h => ?_⟩
  refine ht P ρ S H m σ _ w er (Post.step h fun S1 H1 m1 v x t1 w1 r1 h1 => ?_)
  cases q : fixG x S1 with
  | none => rw [q] at h1; exact h1.elim
  | some p =>
    obtain ⟨xs, q2⟩ := p
    rw [q] at h1
    simp only at h1
    obtain ⟨b, a, vs, rfl, hq, hk⟩ := fixG_H w1 r1 q
    have wk := walk_seq (T := T) hk
    cases b with
    | true => exact ⟨a, rfl, .inl ⟨⟨vs, hq⟩, Post.done (Rel := RelWG K T P) w1 h1 wk⟩⟩
    | false => exact ⟨a, rfl, .inr ⟨⟨vs, hq⟩, Post.done (Rel := RelWG K T P) w1 h1 wk⟩⟩
def zpX : List EV → List EV → List Itm
  | x :: xs, y :: ys => .row [x, y] :: zpX xs ys
  | _, _ => []
theorem zpX_get : ∀ {xs ys : List EV} {i : Nat} {it : Itm}, (zpX xs ys)[i]? = some it → ∃ x y, xs[i]? = some x ∧ ys[i]? = some y ∧ it = .row [x, y]
  | x :: xs, y :: ys, 0, it, h => by
    simp [zpX] at h
    exact ⟨x, y, rfl, rfl, h.symm⟩
  | x :: xs, y :: ys, i + 1, it, h => by
    obtain ⟨a, b, h1, h2, h3⟩ := zpX_get (xs := xs) (ys := ys) (i := i) (by simpa [zpX] using h)
    exact ⟨a, b, by simpa using h1, by simpa using h2, h3⟩
  | [], _, _, _, h => by simp [zpX] at h
  | _ :: _, [], _, _, h => by simp [zpX] at h
theorem zpX_len : ∀ (xs ys : List EV), (zpX xs ys).length = min xs.length ys.length
  | x :: xs, y :: ys => by simp only [zpX, List.length_cons, zpX_len xs ys]; omega
  | [], ys => by simp [zpX]
  | _ :: _, [] => by simp [zpX]
def zpG (f : AF) : IFG := fun ρ S => (f ρ S).bind fun xs S1 => match xs with
  | [x, y] => match fixG x S1, fixG y S1 with
    | some (xs, q), some (ys, r) => .ok (zpX xs ys, q ++ r) S1
    | _, _ => .bad
  | _ => .bad
theorem okG_app {q r : Gd} (h : okG S (q ++ r)) : okG S q ∧ okG S r := ⟨fun p hp => h p (List.mem_append_left _ hp), fun p hp => h p (List.mem_append_right _ hp)⟩
theorem dig_zip (F : Fam X K N) {elts : List Expr} {kk : Nat} {tpos p : Pos} (hm : ∀ i, (X i).mg "zip" = none) (ha : DA X K T W [a, b] fs) (hg : ∀ i, Gl (X i) "zip" := by intro _; rfl) (hs : ∀ i, starEach [a, b] (X i).env = (false, eval a (X i).env) :: starEach [b] (X i).env := by intro _; rfl)
    (hpl : ∀ i, (backTo pos (starEach [b] (X i).env)).any (·.1) = false := by intro _; rfl) :
    DIG X K T W (.Tuple elts kk tpos) (.Call (.Name "zip" p) [a, b] [] pos) (zpG fs) := by
  obtain ⟨t, pt, ht⟩ := ha.ex
  refine ⟨iZipB K t, fun i => by have := pi_zipB (elts := elts) (kk := kk) (tpos := tpos) (p := p) (pos := pos) (hg i) (hm i) (pt i) (hs i) (hpl i); rw [F.K i] at this; exact this, fun P ρ S H m σ R w er h => ?_⟩
  refine ht P ρ S H m σ _ w er (Post.step h fun S1 H1 m1 vs xs t1 w1 r1 h1 => ?_)
  split at h1
  · rename_i x y
    split at h1
    · rename_i ds g1 es g2 q q'
      obtain ⟨v, u, rfl, rv, ru⟩ := rpl_two r1
      obtain ⟨b, a, us, rfl, hq, hk⟩ := fixG_H w1 rv q
      obtain ⟨c, d, ws, rfl, hq', hk'⟩ := fixG_H w1 ru q'
      refine ⟨b, c, a, d, us, ws, rfl, hq, hq', Post.done (Rel := RelWG K T P) w1 h1 fun P2 S2 H2 m2 i hp t w2 ok => ?_⟩
      obtain ⟨us2, hq2, r2⟩ := hk P2 S2 H2 m2 hp t w2 (okG_app ok).1
      obtain ⟨ws2, hq3, r3⟩ := hk' P2 S2 H2 m2 hp t w2 (okG_app ok).2
      refine ⟨fun hi => ⟨us2, ws2, hq2, hq3, by rw [r2.length, r3.length, ← zpX_len]; exact hi⟩, fun it hit => ?_⟩
      obtain ⟨x1, x2, hx1, hx2, rfl⟩ := zpX_get hit
      obtain ⟨y1, e1, e2⟩ := r2.get hx1
      obtain ⟨y2, e3, e4⟩ := r3.get hx2
      refine ⟨⟨us2, ws2, y1, y2, hq2, hq3, e1, e3⟩, fun x H3 ⟨T0, z1, z2, ex, hT, eH, hy, hy'⟩ => ?_⟩
      subst ex
      subst eH
      have q1 := hy us2 hq2
      rw [e1] at q1
      cases q1
      have q2 := hy' ws2 hq3
      rw [e3] at q2
      cases q2
      exact ⟨To.new w2 hT, w2.new hT, rpi_row hT w2 (.cons e2 (.cons e4 .nil))⟩
    · exact h1.elim
  · exact h1.elim
/-! ### for -/
noncomputable def forLG (q : Gd) (g : GF) (b : SF) : List Itm → SF
  | [] => fun ρ S => if chk q S = true then .nx ρ S else .bad
  | it :: r => fun ρ S => if chk q S = true then match g it ρ with
    | none => .bad
    | some ρ1 => match b ρ1 S with
      | .nx ρ2 S2 => forLG q g b r ρ2 S2
      | .cont ρ2 S2 => forLG q g b r ρ2 S2
      | .brk ρ2 S2 => .nx ρ2 S2
      | o => o
    else .bad
noncomputable def forSG (f : IFG) (g : GF) (b : SF) : SF := fun ρ S => (f ρ S).toS ρ fun its S1 => forLG its.2 g b its.1 ρ S1
theorem ds_forG (F : Fam X K N) {iter : Expr} {body : List Stmt} {f : IFG} (hi : DIG X K T W tg iter f) (hg : DG X K T tg ws g) (hb : DSs X K T W body sf) (hp : ∀ i, PassesOwn (model (X i).prog (X i).w) (X i).A (X i).env (X i).xe)
    (hs : ∀ i x, foldedSetIterable iter (X i).env x = pure x := by intro _ _; rfl) : DS X K T W (.For tg iter body [] pos) (forSG f g sf) := by
  obtain ⟨wi, pi, hI⟩ := hi.ex
  obtain ⟨u, pu, hu⟩ := hg.ex
  obtain ⟨t, pt, ht⟩ := hb.ex
  refine ⟨tFor wi u t, fun j => ps_for (hp j) (F.calm j) (pi j) (pu j) (pt j) (hs j), fun P ρ S H m σ D w er h => ?_⟩
  refine hI P ρ S H m σ _ w er (PostS.step er h fun S1 H1 m1 J itq t1 w1 r1 h1 => ?_)
  obtain ⟨its, q0⟩ := itq
  simp only at h1
  have er1 := er.to t1
  refine ⟨fun i k σ' H' => k = its.length - i ∧ i ≤ its.length ∧ ∃ ρ' S' m', To P S1 H1 m1 S' H' m' ∧ Wd K P S' H' m' T ∧ EnvR K P S' H' m' ρ' σ' ∧ PostS K T P S' H' m' W (forLG q0 g sf (its.drop i) ρ' S') D,
    ⟨_, rfl, Nat.zero_le _, ρ, S1, m1, To.refl, w1, er1, h1⟩, ?_⟩
  rintro i k σ2 H2 ⟨rfl, hi, ρ2, S2, m2, t2, w2, e2, h2⟩
  have hok : chk q0 S2 = true := by
    by_cases z : chk q0 S2 = true
    · exact z
    · cases qd : its.drop i with
      | nil => rw [qd] at h2; unfold forLG at h2; rw [if_neg z] at h2; exact h2.elim
      | cons it r => rw [qd] at h2; unfold forLG at h2; rw [if_neg z] at h2; exact h2.elim
  obtain ⟨stop, go⟩ := r1 P S2 H2 m2 i (fun _ z => .inl z) t2 w2 (chk_iff.mp hok)
  by_cases hl : i < its.length
  · refine .inr ?_
    obtain ⟨g1, g2⟩ := go its[i] (List.getElem?_eq_getElem hl)
    have ed : its.drop i = its[i] :: its.drop (i + 1) := List.drop_eq_getElem_cons hl
    rw [ed] at h2
    unfold forLG at h2
    rw [if_pos hok] at h2
    cases q : g its[i] ρ2 with
    | none => simp only [q] at h2; exact h2.elim
    | some ρ3 =>
      simp only [q] at h2
      refine ⟨g1, fun σ' H' => ∃ ρ' S' m', To P S1 H1 m1 S' H' m' ∧ Wd K P S' H' m' T ∧ EnvR K P S' H' m' ρ' σ' ∧ PostS K T P S' H' m' W (forLG q0 g sf (its.drop (i + 1)) ρ' S') D,
        fun σ' H' z => ⟨_, by omega, rfl, hl, z⟩, fun x H3 y3 => ?_⟩
      obtain ⟨t3, w3, r3⟩ := g2 x H3 y3
      refine hu P ρ2 ρ3 S2 H3 m2 σ2 x its[i] _ w3 (e2.to t3) r3 q fun σ4 e4 _ => ?_
      refine ht P ρ3 S2 H3 m2 σ4 _ w3 e4 ?_
      cases qb : sf ρ3 S2 with
      | bad => rw [qb] at h2; exact h2
      | ret x S5 => rw [qb] at h2; exact PostS.after (r := .ret x S5) t3 h2
      | exc x ρ S5 => rw [qb] at h2; exact PostS.after (r := .exc x ρ S5) t3 h2
      | brk ρ5 S5 => rw [qb] at h2; exact fun H' m' σ' t5 w5 e5 => h2 H' m' σ' (t3.trans t5) w5 e5
      | nx ρ5 S5 => rw [qb] at h2; exact fun H' m' σ' t5 w5 e5 => ⟨ρ5, S5, m', (t2.trans t3).trans t5, w5, e5, PostS.after (t3.trans t5) h2⟩
      | cont ρ5 S5 => rw [qb] at h2; exact fun H' m' σ' t5 w5 e5 => ⟨ρ5, S5, m', (t2.trans t3).trans t5, w5, e5, PostS.after (t3.trans t5) h2⟩
  · refine .inl ⟨stop (by show its.length = i; omega), ?_⟩
    rw [List.drop_eq_nil_of_le (by omega)] at h2
    unfold forLG at h2
    rw [if_pos hok] at h2
    exact PostS.nx w2 e2 h2

/-! ### comprehensions -/
noncomputable def lcLG (q : Gd) (g : GF) (t : BF) (e : EF) (ρ : Rho) : List Itm → Store → Res (List EV)
  | [], S => if chk q S = true then .ok [] S else .bad
  | it :: r, S => if chk q S = true then match g it ρ with
    | none => .bad
    | some ρ1 => (t ρ1 S).bindN fun b S1 => if b = true then (e ρ1 S1).bindN fun y S2 => (lcLG q g t e ρ r S2).bindN fun ys S3 => .ok (y :: ys) S3 else lcLG q g t e ρ r S1
    else .bad
noncomputable def lcG (mk : List EV → Store → Res EV) (f : IFG) (g : GF) (t : BF) (e : EF) (vs : List Nat) : EF := fun ρ S => (f ρ S).bind fun its S1 => (lcLG its.2 g t e (wipeR ρ vs) its.1 S1).bindN mk
theorem lc_runG {P : Addr → Prop} {ρ : Rho} {S : Store} {H : Hp} {m : Nat → Addr} {σ : L2.St} {Q : VK} {mk : List EV → Store → Res EV} {f : IFG} {tf : BF} {ef : EF} {vs : List Nat} {wi : TI} {u : TG} {tt : TT} {te : TE}
    (hmk : MkOk K T mk) (hml : MkLen mk) (hws : ∀ j ∈ ws, j ∈ vs)
    (hI : ∀ P ρ S H m σ R, Wd K P S H m T → EnvR K P S H m ρ σ → Post K T P (RelWG K T P) S H m σ W (f ρ S) R → wi σ H R)
    (hu : ∀ P ρ ρ' S H m σ v it (Q : L2.St → Hp → Prop), Wd K P S H m T → EnvR K P S H m ρ σ → RpI K P S H m v it → g it ρ = some ρ' → (∀ σ', EnvR K P S H m ρ' σ' → Same ws σ σ' → Q σ' H) → u v σ H Q)
    (hT : ∀ P ρ S H m σ Q, Wd K P S H m T → EnvR K P S H m ρ σ → Post K T P RelB S H m σ Wn (tf ρ S) Q → tt σ H Q)
    (hE : ∀ P ρ S H m σ Q, Wd K P S H m T → EnvR K P S H m ρ σ → Post K T P (RelE K P) S H m σ Wn (ef ρ S) Q → te σ H Q)
    (w : Wd K P S H m T) (er : EnvR K P S H m ρ σ) (h : Post K T P (RelE K P) S H m σ W (lcG mk f g tf ef vs ρ S) Q) : tLc wi u tt te vs σ H Q := by
  refine hI P ρ S H m σ _ w er (Post.step h fun S1 H1 m1 J itq t1 w1 r1 h1 => ?_)
  obtain ⟨its, q0⟩ := itq
  simp only at h1
  have er1 := er.to t1
  intro D hD
  have hnD : ¬ P D := fun z => (w1.prv D z).1 hD
  have w2 : Wd K (Plus P D) S1 (upd H1 D (.lst [])) m1 T := w1.priv hD
  have e2 : EnvR K (Plus P D) S1 (upd H1 D (.lst [])) m1 (wipeR ρ vs) (L2.wipe σ vs) := EnvR.upP (EnvR.prv (plus_ok hD) (er1.wipe vs))
  -- what holds at the turns
  let Inv := fun (i : Nat) (H' : Hp) => ∃ S' m' accV acc, To P S1 H1 m1 S' H' m' ∧ Wd K (Plus P D) S' H' m' T ∧ EnvR K (Plus P D) S' H' m' (wipeR ρ vs) (L2.wipe σ vs) ∧ H' D = some (.lst accV) ∧ RpL K (Plus P D) S' H' m' accV acc ∧
    Post K T P (RelE K P) S1 H1 m1 σ W ((lcLG q0 g tf ef (wipeR ρ vs) (its.drop i) S').bindN fun ys S3 => mk (acc ++ ys) S3) Q
  refine ⟨fun i k H' => k = its.length - i ∧ i ≤ its.length ∧ Inv i H', ⟨_, rfl, Nat.zero_le _, S1, m1, [], [], To.priv To.refl hD, w2, e2, upd_same, .nil, ?_⟩, ?_⟩
  · simpa using h1
  rintro i k H2 ⟨rfl, hi, S2, m2, accV, acc, t2, w2, e2, d2, ra, h2⟩
  have hok : chk q0 S2 = true := by
    by_cases z : chk q0 S2 = true
    · exact z
    · cases qd : its.drop i with
      | nil => rw [qd] at h2; unfold lcLG at h2; rw [if_neg z] at h2; exact h2.elim
      | cons it r => rw [qd] at h2; unfold lcLG at h2; rw [if_neg z] at h2; exact h2.elim
  obtain ⟨stop, go⟩ := r1 (Plus P D) S2 H2 m2 i (plus_ok hD) t2 w2 (chk_iff.mp hok)
  by_cases hl : i < its.length
  · refine .inr ?_
    obtain ⟨g1, g2⟩ := go its[i] (List.getElem?_eq_getElem hl)
    rw [List.drop_eq_getElem_cons hl] at h2
    unfold lcLG at h2
    rw [if_pos hok] at h2
    cases q : g its[i] (wipeR ρ vs) with
    | none => simp only [q] at h2; exact h2.elim
    | some ρ3 =>
      simp only [q] at h2
      refine ⟨g1, Inv (i + 1), fun H' z => ⟨_, by omega, rfl, hl, z⟩, fun x H3 y3 => ?_⟩
      obtain ⟨t3, w3, r3⟩ := g2 x H3 y3
      have e3 := e2.to t3
      refine hu (Plus P D) (wipeR ρ vs) ρ3 S2 H3 m2 _ x its[i] _ w3 e3 r3 q fun σ4 e4 s4 => ⟨?_, ?_⟩
      · rw [s4.wipe hws]
        apply List.ext_getElem?
        intro j
        rw [wipe_get, wipe_get, L2.wipe_length]
        by_cases z : j ∈ vs ∧ j < σ.length
        · rw [if_pos z, if_pos z]
        · rw [if_neg z, if_neg z]
      have kD : ∀ {S' : Store} {H' : Hp} {m' : Nat → Addr}, To (Plus P D) S2 H3 m2 S' H' m' → H3 D = some (.lst accV) → H' D = some (.lst accV) := fun t e => t.keep D _ e (w3.prv D (.inr rfl)).2 fun ps z => by cases z
      have d3 : H3 D = some (.lst accV) := t3.keep D _ d2 (w2.prv D (.inr rfl)).2 fun ps z => by cases z
      refine hT (Plus P D) ρ3 S2 H3 m2 σ4 _ w3 e4 ?_
      cases qt : tf ρ3 S2 with
      | bad => rw [qt] at h2; exact h2
      | exc _ _ => rw [qt] at h2; exact h2.elim
      | ok b S5 =>
        rw [qt] at h2
        simp only [Res.bindN] at h2
        intro H5 m5 b' t5 w5 eb
        obtain rfl : b' = b := eb
        have t25 := t2.trans (To.prv (t3.trans t5))
        cases b' with
        | false =>
          simp only [Bool.false_eq_true, if_false] at h2 ⊢
          exact ⟨S5, m5, accV, acc, t25, w5, (e2.to t3).to t5, kD t5 d3, t5.rpL (t3.rpL ra), h2⟩
        | true =>
          simp only [if_true] at h2 ⊢
          refine hE (Plus P D) ρ3 S5 H5 m5 σ4 _ w5 (e4.to t5) ?_
          cases qe : ef ρ3 S5 with
          | bad => rw [qe] at h2; exact h2
          | exc _ _ => rw [qe] at h2; exact h2.elim
          | ok y S6 =>
            rw [qe] at h2
            simp only at h2
            intro H6 m6 yv t6 w6 ry
            have d6 := kD (t5.trans t6) d3
            have ra6 : RpL K (Plus P D) S6 H6 m6 (accV ++ [yv]) (acc ++ [y]) := (t6.rpL (t5.rpL (t3.rpL ra))).append (.cons ry .nil)
            -- its length
            have hz : accV.length < sizeLine := by
              rw [RpL.length ra]
              cases ql : lcLG q0 g tf ef (wipeR ρ vs) (its.drop (i + 1)) S6 with
              | bad => rw [ql] at h2; exact h2.elim
              | exc _ _ => rw [ql] at h2; exact h2.elim
              | ok ys S7 =>
                rw [ql] at h2
                simp only at h2
                by_cases z : acc.length < sizeLine
                · exact z
                · rw [hml _ _ (by rw [List.length_append, List.length_cons]; omega)] at h2
                  exact h2.elim
            refine ⟨accV, d6, hz, S6, m6, accV ++ [yv], acc ++ [y], To.priv (t25.trans (To.prv t6)) hD, w6.upP (fun ps z => by rw [d6] at z; cases z), EnvR.upP (((e2.to t3).to t5).to t6), upd_same, RpL.upP ra6, ?_⟩
            cases ql : lcLG q0 g tf ef (wipeR ρ vs) (its.drop (i + 1)) S6 with
            | bad => rw [ql] at h2; exact h2.elim
            | exc _ _ => rw [ql] at h2; exact h2.elim
            | ok ys S7 =>
              rw [ql] at h2
              simp only [Res.bindN] at h2 ⊢
              rw [List.append_assoc]
              exact h2
  · refine .inl ⟨stop (by show its.length = i; omega), ?_⟩
    rw [List.drop_eq_nil_of_le (by omega)] at h2
    unfold lcLG at h2
    rw [if_pos hok] at h2
    simp only [Res.bindN, List.append_nil] at h2
    exact hmk t2 hD w2 hnD d2 ra h2
theorem de_lcWG (F : Fam X K N) {mk : List EV → Store → Res EV} (hmk : MkOk K T mk) (hml : MkLen mk) {elt iter : Expr} {ifs : List Expr} {scope : Scope} {f : IFG} {tf : BF} {ef : EF} (own : List (Str × Nat)) (hi : DIG X K T W tg iter f) (hg : DG (blkX X scope) K T tg ws g) (ht : DTs (blkX X scope) K T Wn ifs tf) (he : DE (blkX X scope) K T Wn elt ef)
    (ok : ∀ i, BlkOk N (X i).env.scope scope own) (hws : ∀ j ∈ ws, j ∈ own.map (·.2) := by decide) (hs : ∀ i x, foldedSetIterable iter (X i).env x = pure x := by intro _ _; rfl) :
    DE X K T W (.ListComp elt [⟨tg, iter, ifs, 0⟩] scope pos) (lcG mk f g tf ef (own.map (·.2))) := by
  obtain ⟨wi, pi, hI⟩ := hi.ex
  obtain ⟨u, pu, hu⟩ := hg.ex
  obtain ⟨tt, ptt, hT⟩ := ht.ex
  obtain ⟨te, pte, hE⟩ := he.ex
  exact ⟨tLc wi u tt te (own.map (·.2)), fun i => pe_lc (F.calm i) (by rw [F.N i]; exact F.nd) (pi i) (by rw [F.N i]; exact ok i) (fun s H C cl fp => pu (i, s, H, C, cl, fp)) (fun s H C cl fp => ptt (i, s, H, C, cl, fp)) (fun s H C cl fp => pte (i, s, H, C, cl, fp)) (hs i),
    fun P ρ S H m σ Q w er h => lc_runG hmk hml hws hI hu hT hE w er h⟩
/-- name = [..] on one line -/
theorem ds_setLcWG (F : Fam X K N) {mk : List EV → Store → Res EV} (hmk : MkOk K T mk) (hml : MkLen mk) {elt iter : Expr} {ifs : List Expr} {scope : Scope} {f : IFG} {tf : BF} {ef : EF} {p spos : Pos} {y : Str} (i : Nat) (own : List (Str × Nat)) (hi : DIG X K T W tg iter f) (hg : DG (blkX X scope) K T tg ws g) (ht : DTs (blkX X scope) K T Wn ifs tf) (he : DE (blkX X scope) K T Wn elt ef)
    (ok : ∀ i, BlkOk N (X i).env.scope scope own) (hN : N[i]? = some y := by rfl) (hy : ∀ i, (X i).env.scope.names.lookup y = some .local := by intro _; rfl) (hk : ∀ i, (X i).env.scope.kind = .function := by intro _; rfl) (hl : (p.line == pos.line) = true := by rfl)
    (hna : (scope.names.any fun (n, k) => n == y && (k == .local || k == .cell)) = false := by rfl) (hws : ∀ j ∈ ws, j ∈ own.map (·.2) := by decide) (hs : ∀ i x, foldedSetIterable iter (X i).env x = pure x := by intro _ _; rfl) :
    DS X K T W (.Assign [.Name y p] (.ListComp elt [⟨tg, iter, ifs, 0⟩] scope pos) spos) (setF i (lcG mk f g tf ef (own.map (·.2)))) := by
  obtain ⟨wi, pi, hI⟩ := hi.ex
  obtain ⟨u, pu, hu⟩ := hg.ex
  obtain ⟨tt, ptt, hT⟩ := ht.ex
  obtain ⟨te, pte, hE⟩ := he.ex
  refine ⟨tAsg (tLc wi u tt te (own.map (·.2))) (gName i), fun j => ps_setLc (F.calm j) (by rw [F.N j]; exact F.nd) (by rw [F.N j]; exact hN) (hy j) (sw_true (hk j) (hy j) hl hna) (pi j) (by rw [F.N j]; exact ok j) (fun s H C cl fp => pu (j, s, H, C, cl, fp)) (fun s H C cl fp => ptt (j, s, H, C, cl, fp)) (fun s H C cl fp => pte (j, s, H, C, cl, fp)) (hs j),
    fun P ρ S H m σ D w er h => ?_⟩
  have h2 : Post K T P (RelE K P) S H m σ W (lcG mk f g tf ef (own.map (·.2)) ρ S) (fun x H1 => D.nx (σ.set i (some x)) H1) := PostS.step (Rel := RelE K P) er h fun S1 H1 m1 v x t1 w1 r1 h1 => PostS.nx w1 ((er.to t1).set i r1) h1
  exact lc_runG hmk hml hws hI hu hT hE w er h2
end
end Z
set_option maxRecDepth 100000
set_option maxHeartbeats 4000000
/-! Z31: any, all of a list of ints. -/
namespace Z
open PySem PySem.Spec PyProof.Rows L2
def rAnyI (K : PySem.W.Frag) (f : List Int → Bool) : List V → Hp → VK → Prop := fun vs H Q => ∃ (a : Addr) (ns : List Int), vs = [V.ref a] ∧ SqL K H a (ns.map V.int) ∧ Q (.bl (f ns)) H
theorem dpa_ints {K : PySem.W.Frag} {H : Hp} : ∀ ns : List Int, DpAll K H (ns.map V.int) (ns.map .int)
  | [] => .nil
  | n :: ns => .cons (.int n) (dpa_ints ns)
theorem plain_ints : ∀ ns : List Int, PyData.plainAll (ns.map .int) = true
  | [] => rfl
  | n :: ns => by show (PyData.plain (.int n) && PyData.plainAll (ns.map .int)) = true; rw [plain_ints ns]; rfl
theorem fits_ints (ns : List Int) : ∀ x ∈ ns.map PyData.int, x.fits63 := fun x hx => by
  obtain ⟨n, _, rfl⟩ := List.mem_map.mp hx
  trivial
theorem cr_anyI {X : Cx} (hc : X.calm = true) : CallR X (.builtin "any") (rAnyI X.K fun ns => ns.any (· != 0)) := by
  intro pins s σ H vs us Q I r h
  obtain ⟨a, ns, rfl, hs, q⟩ := h
  obtain ⟨its, rv, hl, _⟩ := I.list hs
  rw [Vals.ref1 r]
  obtain ⟨as, h4⟩ := Dp.readsAll I (ns.map .int) _ its (dpa_ints ns) rv
  refine PySem.W.any_list_data (I.ok.hd hc) hl.isList (vs := its.toArray) (show ReadsAll s.heap its.toArray.toList (ns.map .int) as from h4) (plain_ints ns) (fits_ints ns) fun h' tk hk => ⟨.bl _, H, I.kept hk, ?_, q⟩
  show Value.bool _ = Value.bool _
  rw [List.any_map]
  rfl
theorem cr_allI {X : Cx} (hc : X.calm = true) : CallR X (.builtin "all") (rAnyI X.K fun ns => ns.all (· != 0)) := by
  intro pins s σ H vs us Q I r h
  obtain ⟨a, ns, rfl, hs, q⟩ := h
  obtain ⟨its, rv, hl, _⟩ := I.list hs
  rw [Vals.ref1 r]
  obtain ⟨as, h4⟩ := Dp.readsAll I (ns.map .int) _ its (dpa_ints ns) rv
  refine PySem.W.all_list_data (I.ok.hd hc) hl.isList (vs := its.toArray) (show ReadsAll s.heap its.toArray.toList (ns.map .int) as from h4) (plain_ints ns) (fits_ints ns) fun h' tk hk => ⟨.bl _, H, I.kept hk, ?_, q⟩
  show Value.bool _ = Value.bool _
  rw [List.all_map]
  rfl
section
variable {ι : Type} {X : ι → Cx} {K : PySem.W.Frag} {T : List Addr} {W : WX} {N : List Str} {S : Store}
def gAnyI (f : List Int → Bool) : List EV → Store → Res EV := fun xs S => match xs with
  | [x] => match itemsLS S x with
    | some ys => match intsOf ys with
      | some ns => .ok (.d (.bool (f ns))) S
      | none => .bad
    | none => .bad
  | _ => .bad
theorem any_H {f : List Int → Bool} {P : Addr → Prop} {S : Store} {H : Hp} {m : Nat → Addr} {σ : L2.St} {xs : List EV} {vs : List V} {Q : VK} (w : Wd K P S H m T) (r : RpL K P S H m vs xs) (h : Post K T P (RelE K P) S H m σ W (gAnyI f xs S) Q) : rAnyI K f vs H Q := by
  unfold gAnyI at h
  split at h
  · obtain ⟨v, rfl, rv⟩ := rpl_one r
    split at h
    · rename_i ys q
      obtain ⟨a, us, rfl, hs, rl⟩ := itemsLS_H w rv q
      split at h
      · rename_i ns q2
        have e := intsOf_rp q2 rl
        subst e
        exact ⟨a, ns, rfl, hs, Post.done (Rel := RelE K P) w h (Dq.bl _)⟩
      · exact h.elim
    · exact h.elim
  · exact h.elim
theorem cd_anyI (F : Fam X K N) : CallD X K T (.builtin "any") (gAnyI fun ns => ns.any (· != 0)) :=
  ⟨rAnyI K _, fun i => by have := cr_anyI (X := X i) (F.calm i); rw [F.K i] at this; exact this, fun P S H m σ W xs vs Q w r h => any_H w r h⟩
theorem cd_allI (F : Fam X K N) : CallD X K T (.builtin "all") (gAnyI fun ns => ns.all (· != 0)) :=
  ⟨rAnyI K _, fun i => by have := cr_allI (X := X i) (F.calm i); rw [F.K i] at this; exact this, fun P S H m σ W xs vs Q w r h => any_H w r h⟩
theorem any_list {f : List Int → Bool} {ns : List Int} : gAnyI f [.d (.list (ns.map .int))] S = .ok (.d (.bool (f ns))) S := by
  have := intsOf_ints ns
  simp [gAnyI, this]
end
end Z
set_option maxRecDepth 100000
set_option maxHeartbeats 4000000
/-! Z32: sorted of a generator expression. -/
namespace SrtO
open PySem PyProof.Rows Srt
section
variable {prog : Program} {w : World} {A : Around} {E : Value → Shared → Prop} {s : Shared}
theorem z_sorted_by {u : Value} {Q : Value → Shared → Prop} {R : List Value → Shared → Prop}
    (hc : wpAny (model prog w) A.in1 (collect u) R E s)
    (h : ∀ (vs : List Value) (s' : Shared), R vs s' → vs.length ≤ sizeLine ∧ ∃ ltv : Value → Value → Bool, Swo ltv ∧ (2 ≤ vs.length → ∀ (h₁ : Heap) (a : Addr), SortableO prog w A.in1.in1 { s' with heap := h₁ } a vs ltv) ∧
      ∀ out : List Value, Srtd ltv out → Stb ltv out vs → ∀ (h₁ : Heap), (∀ b o, s'.heap.get? b = some o → h₁.get? b = some o) → (∃ e, h₁.get? s'.heap.objs.size = some (seqObj "list" out.toArray e)) → Q (.ref s'.heap.objs.size) { s' with heap := h₁ }) :
    wpAny (model prog w) A (call (.builtin "sorted") [u]) Q E s := by
  refine Calls.call_function_entry kind_sorted plain_sorted entry_sorted (args_sorted1 _) ?_
  unfold Builtin.«sorted»
  refine wpAny_bind (m := checkCount "sorted" 1 1 _) (wpAny_pure ?_)
  refine wpAny_bind (L2.thn hc fun vs s' hR => ?_)
  obtain ⟨hz, ltv, O, hS, hQ⟩ := h vs s' hR
  refine wpAny_bind (wpAny_newList ?_ hz)
  have hoL : (s'.heap.push (seqObj "list" vs.toArray 0)).get? s'.heap.objs.size = some (seqObj "list" vs.toArray 0) := Heap.get?_push_size _ rfl
  show wpAny _ _ _ _ _ { s' with heap := s'.heap.push (seqObj "list" vs.toArray 0) }
  refine wpAny_bind (wpAny_holding (wpAny_call_entry slot_list_sort ⟨_, hoL, rfl⟩ entry_list_sort (list_sort_ord O hoL hz (fun h2 => hS h2 _ _) fun out hs hb => ⟨_, rfl, ?_⟩) (args_list_sort _)))
  exact wpAny_pure ⟨_, rfl, hQ out hs hb _ (fun b o q => by
    have hlt := Heap.lt_size q
    rw [PyProof.Rows.sortedHeap_old (Nat.ne_of_lt hlt) (by rw [size_push']; exact Nat.lt_succ_of_lt hlt)]
    exact Heap.get?_push_of_some _ q) (PyProof.Rows.sortedHeap_at hoL)⟩
end
end SrtO
namespace Z
open PySem PySem.Spec PyProof.Rows L2
section
variable {ι : Type} {X : ι → Cx} {K : PySem.W.Frag} {T : List Addr} {W : WX} {N : List Str}
theorem strsOf_len : ∀ {ds : List PyData} {zs : List Str}, strsOf ds = some zs → ds.length = zs.length
  | [], zs, h => by cases h; rfl
  | .str x :: t, zs, h => by
    have h' : (strsOf t).map (x :: ·) = some zs := h
    cases q : strsOf t with
    | none => rw [q] at h'; cases h'
    | some es =>
      rw [q] at h'
      cases h'
      simp [strsOf_len q]
  | .none :: _, _, h => by cases h
  | .bool _ :: _, _, h => by cases h
  | .int _ :: _, _, h => by cases h
  | .list _ :: _, _, h => by cases h
  | .tuple _ :: _, _, h => by cases h
  | .dict _ :: _, _, h => by cases h
theorem de_sortedG {k : Nat} {p pos : Pos} {e : Expr} {f : IF} {g : GF} {tf : BF} {ef : EF} {vs : List Nat} (G : GenD X K T W N k e f g tf ef vs) (hr : ∀ i, Room (k + 4) (X i).A) (hm : ∀ i, (X i).mg "sorted" = none) (hg : ∀ i, Gl (X i) "sorted" := by intro _; rfl)
    (he : ∀ i, starEach [e] (X i).env = (false, eval e (X i).env) :: starEach [] (X i).env := by intro _; rfl) : DE X K T W (.Call (.Name "sorted" p) [e] [] pos) (collF srtOut f g tf ef vs) := by
  refine de_tZ fun i => ⟨fun pins s σ H Q I hq => ?_⟩
  obtain ⟨P, ρ, S, m, w, er, h⟩ := hq
  refine wpAny_Call_Name_kw (ld_blt I (hg i) (hm i) (by decide +kernel : bootBuiltins "sorted" = some (.builtin "sorted")) ?_)
  refine PyProof.Rows.callWith_builtin1 ?_ (he i) (by rfl)
  rw [he i]
  show wpAny _ _ (spliced ((false, eval e (X i).env) :: backTo pos (starEach [] (X i).env))) _ _ s
  refine Calls.spliced_cons (G.run i I w er h fun S1 H1 m1 its u s1 t1 w1 h1 hG => ?_)
  refine Calls.spliced_nil ?_
  unfold mkColl at h1
  split at h1
  · rename_i ys Sf q
    have hz : ys.length ≤ sizeLine := by
      unfold srtOut at h1
      split at h1
      · rename_i ns qn
        rw [intsOf_evs qn]
        split at h1
        · simpa [evs]
        · exact h1.elim
      · split at h1
        · rename_i ds qd
          obtain rfl := evs_of qd
          split at h1
          · rename_i zs qz
            split at h1
            · have := strsOf_len qz
              simp only [evs, List.length_map]
              omega
            · exact h1.elim
          · exact h1.elim
        · exact h1.elim
    refine SrtO.z_sorted_by (R := fun vs s' => ∃ H' m' us, To P S1 H1 m1 Sf H' m' ∧ Wd K P Sf H' m' T ∧ Inv (X i) pins σ H' s' ∧ Vals us vs ∧ RpL K P Sf H' m' us ys)
      (collect_Z (A := (X i).A.in1) (Room.in1 (hr i)) (by obtain ⟨sc, _, _, _, _, _, I1, _⟩ := hG; exact I1.ok.frames) hG q hz fun s' H' m' us vs t w2 J rv ru => ⟨H', m', us, t, w2, J, rv, ru⟩) ?_
    rintro vs s' ⟨H', m', us, t, w2, J, rv, ru⟩
    have hvl : vs.length ≤ sizeLine := by rw [← rv.length, ru.length]; exact hz
    refine ⟨hvl, ?_⟩
    have hls : ∀ (ws : List V), ws.length = us.length → ws.length ≤ sizeLine := fun ws e => by rw [e, rv.length]; exact hvl
    obtain ⟨_, ⟨ns, rfl, h3⟩ | ⟨zs, rfl, h3⟩⟩ := srtOut_H (W := W) (σ := σ) w2 ru (Post.after t h1)
    · have hi := rv.ints
      refine ⟨SrtO.ltIv, SrtO.swo_int, fun h2 h₁ a' => SrtO.ints_sortable hi h2, fun out h1 h2 h₁ hk ⟨ep, he'⟩ => ?_⟩
      obtain ⟨k1, k2, k3⟩ := SrtO.ints_out hi h1 h2
      rw [sortI_eq k2 k3] at k1 k2
      exact ⟨.ref _, upd H' s'.heap.objs.size (.lst ((sortI ns).map V.int)), J.laid (t' := s'.toks) hk (Nat.le_refl _) ⟨hls _ (by simp [k2.length_eq]), out, ep, vals_of_ints k1, he'⟩, rfl, h3 _ (J.hok.fresh (Nat.le_refl _))⟩
    · have hi := rv.strs
      refine ⟨SrtO.ltSv, SrtO.swo_str, fun h2 h₁ a' => SrtO.strs_sortable hi h2, fun out h1 h2 h₁ hk ⟨ep, he'⟩ => ?_⟩
      obtain ⟨k1, k2, k3⟩ := SrtO.strs_out hi h1 h2
      rw [sortS_eq k2 k3] at k1 k2
      exact ⟨.ref _, upd H' s'.heap.objs.size (.lst ((sortS zs).map V.str)), J.laid (t' := s'.toks) hk (Nat.le_refl _) ⟨hls _ (by simp [k2.length_eq]), out, ep, vals_of_strs k1, he'⟩, rfl, h3 _ (J.hok.fresh (Nat.le_refl _))⟩
  · exact h1.elim
end
end Z
set_option maxRecDepth 100000
set_option maxHeartbeats 4000000
/-! Z33: the guarded walks, read backwards. -/
namespace Z
open PySem PySem.Spec PyProof.Rows L2
/-! ### one of two ways to evaluate -/
def orEF (f g : EF) : EF := fun ρ S => (f ρ S).or (g ρ S)
theorem PE.or {X : Cx} {e : Expr} {t u : TE} (h : PE X e t) (k : PE X e u) : PE X e (fun σ H R => t σ H R ∨ u σ H R) :=
  ⟨fun pins s σ H R I q => q.elim (h.run pins s σ H R I) (k.run pins s σ H R I)⟩
theorem de_orW {ι : Type} {X : ι → Cx} {K : PySem.W.Frag} {T : List Addr} {W : WX} {e : Expr} {f g : EF} (h : DE X K T W e f) (k : DE X K T W e g) : DE X K T W e (orEF f g) := by
  obtain ⟨t, pt, ht⟩ := h.ex
  obtain ⟨u, pu, hu⟩ := k.ex
  refine ⟨fun σ H R => t σ H R ∨ u σ H R, fun i => PE.or (pt i) (pu i), fun P ρ S H m σ Q w er q => ?_⟩
  cases c : f ρ S with
  | bad =>
    have e2 : orEF f g ρ S = g ρ S := by unfold orEF; rw [c]; rfl
    rw [e2] at q
    exact .inr (hu P ρ S H m σ Q w er q)
  | ok v S' =>
    have e2 : orEF f g ρ S = f ρ S := by unfold orEF; rw [c]; rfl
    rw [e2] at q
    exact .inl (ht P ρ S H m σ Q w er q)
  | exc x S' =>
    have e2 : orEF f g ρ S = f ρ S := by unfold orEF; rw [c]; rfl
    rw [e2] at q
    exact .inl (ht P ρ S H m σ Q w er q)
@[simp] theorem e_or' {f g : EF} {ρ : Rho} {S : Store} : orEF f g ρ S = (f ρ S).or (g ρ S) := (rfl)
section
variable {α β : Type} {Q Q' : α → Store → Prop} {X : XP} {D D' : Dst} {ρ ρ1 : Rho} {S S1 : Store} {g : GF} {sf sg : SF} {t : BF} {e f : EF} {fs : AF} {fG : IFG} {n : Nat} {xs : List EV} {ds : List PyData} {q : Gd}
@[simp] theorem e_lcG {mk : List EV → Store → Res EV} {vs : List Nat} : lcG mk fG g t e vs ρ S = (fG ρ S).bind fun its S1 => (lcLG its.2 g t e (wipeR ρ vs) its.1 S1).bindN mk := (rfl)
@[simp] theorem e_forSG : forSG fG g sf ρ S = (fG ρ S).toS ρ fun its S1 => forLG its.2 g sf its.1 ρ S1 := (rfl)
@[simp] theorem e_seqIG : seqIG f ρ S = (f ρ S).bind fun x S1 => match fixG x S1 with
  | some (xs, q) => .ok (xs.map .one, q) S1
  | none => .bad := (rfl)
@[simp] theorem e_zpG : zpG fs ρ S = (fs ρ S).bind fun xs S1 => match xs with
  | [x, y] => match fixG x S1, fixG y S1 with
    | some (xs, q), some (ys, r) => .ok (zpX xs ys, q ++ r) S1
    | _, _ => .bad
  | _ => .bad := (rfl)
@[simp] theorem fixG_list : fixG (.d (.list ds)) S = some (evs ds, []) := (rfl)
@[simp] theorem fixG_tup : fixG (.d (.tuple ds)) S = some (evs ds, []) := (rfl)
@[simp] theorem fixG_scr : fixG (.scr ds) S = some (evs ds, []) := (rfl)
theorem fixG_own (h : S[n]? = some (.lst xs)) : fixG (.own n) S = some (xs, [(n, xs)]) := by unfold fixG; simp only [h]
theorem chk_nil : chk [] S = true := chk_iff.mpr fun p hp => by cases hp
theorem chk_own (h : S[n]? = some (.lst xs)) : chk [(n, xs)] S = true := chk_iff.mpr fun p hp => by
  rw [List.mem_singleton.mp hp]; exact h
theorem zpX_map (xs ys : List PyData) : zpX (evs xs) (evs ys) = zpL xs ys := by
  induction xs generalizing ys with
  | nil => rfl
  | cons x xs ih =>
    cases ys with
    | nil => rfl
    | cons y ys =>
      show Itm.row [.d x, .d y] :: zpX (evs xs) (evs ys) = Itm.row [.d x, .d y] :: zpL xs ys
      rw [ih]
theorem lcLG_pure {γ : Type} (hq : chk q S = true) (mkI : γ → Itm) (p : γ → Bool) (F : γ → EV) : ∀ (cs : List γ), (∀ c ∈ cs, ∃ ρ1, g (mkI c) ρ = some ρ1 ∧ t ρ1 S = .ok (p c) S ∧ (p c = true → e ρ1 S = .ok (F c) S)) →
    lcLG q g t e ρ (cs.map mkI) S = .ok ((cs.filter p).map F) S
  | [], _ => by unfold lcLG; rw [List.map_nil]; simp [hq]
  | c :: r, h => by
    obtain ⟨ρ1, e1, e2, e3⟩ := h c (by simp)
    have ih := lcLG_pure hq mkI p F r (fun c hc => h c (by simp [hc]))
    cases q2 : p c with
    | true => simp [lcLG, hq, e1, e2, e3 q2, ih, q2, List.filter_cons]
    | false => simp [lcLG, hq, e1, e2, ih, q2, List.filter_cons]
theorem wp_lcGP {γ : Type} {its : List Itm} {Q : List EV → Store → Prop} {cs : List γ} (hq : chk q S = true) (mkI : γ → Itm) (p : γ → Bool) (F : γ → EV) (hi : its = cs.map mkI)
    (st : ∀ c ∈ cs, ∃ ρ1, g (mkI c) ρ = some ρ1 ∧ Wp (t ρ1 S) (fun b S1 => S1 = S ∧ b = p c ∧ (p c = true → Wp (e ρ1 S) (fun y S2 => S2 = S ∧ y = F c) nox)) nox)
    (hQ : Q ((cs.filter p).map F) S) : Wp (lcLG q g t e ρ its S) Q X := by
  subst hi
  refine Wp.of (lcLG_pure hq mkI p F cs fun c hc => ?_) hQ
  obtain ⟨ρ1, e1, h1⟩ := st c hc
  obtain ⟨b, S1, q1, rfl, rfl, h2⟩ := h1.ex
  refine ⟨ρ1, e1, q1, fun hp => ?_⟩
  obtain ⟨y, S2, q2, rfl, rfl⟩ := (h2 hp).ex
  exact q2
theorem wp_lcGM {γ : Type} {its : List Itm} {Q : List EV → Store → Prop} {cs : List γ} (hq : chk q S = true) (mkI : γ → Itm) (F : γ → PyData) (hi : its = cs.map mkI)
    (st : ∀ c ∈ cs, ∃ ρ1, g (mkI c) ρ = some ρ1 ∧ Wp (e ρ1 S) (fun y S2 => S2 = S ∧ y = .d (F c)) nox)
    (hQ : Q (evs (cs.map F)) S) : Wp (lcLG q g yesF e ρ its S) Q X := by
  refine wp_lcGP hq mkI (fun _ => true) (fun c => .d (F c)) hi (fun c hc => ?_) ?_
  · obtain ⟨ρ1, e1, h1⟩ := st c hc
    exact ⟨ρ1, e1, rfl, rfl, fun _ => h1⟩
  · rw [filter_true]
    have : cs.map (fun c => EV.d (F c)) = evs (cs.map F) := by simp [evs]
    rw [this]; exact hQ
theorem wps_forGI (I : Nat → Rho → Store → Prop) (hc : ∀ k ρ S, I k ρ S → chk q S = true) : ∀ (its : List Itm) (k : Nat) (ρ : Rho) (S : Store), I k ρ S →
    (∀ (j : Nat) (it : Itm), its[j]? = some it → ∀ ρ S, I (k + j) ρ S → ∃ ρ1, g it ρ = some ρ1 ∧ WpS (sf ρ1 S) ⟨I (k + j + 1), D.ret, D.nx, I (k + j + 1), D.exc⟩) →
    (∀ ρ S, I (k + its.length) ρ S → D.nx ρ S) → WpS (forLG q g sf its ρ S) D
  | [], k, ρ, S, h, _, hn => by
    unfold forLG
    rw [if_pos (hc k ρ S h)]
    exact hn ρ S h
  | it :: r, k, ρ, S, h, st, hn => by
    obtain ⟨ρ1, e1, e2⟩ := st 0 it rfl ρ S h
    have ih := fun ρ2 S2 (h2 : I (k + 0 + 1) ρ2 S2) => wps_forGI I hc r (k + 1) ρ2 S2 h2 (fun q it hq ρ S hI => by
      have := st (q + 1) it (by simpa using hq) ρ S (by rw [show k + (q + 1) = k + 1 + q by omega]; exact hI)
      rw [show k + (q + 1) + 1 = k + 1 + q + 1 by omega] at this
      exact this) (fun ρ S hI => hn ρ S (by rw [List.length_cons, show k + (r.length + 1) = k + 1 + r.length by omega]; exact hI))
    unfold forLG
    rw [if_pos (hc k ρ S h)]
    simp only [e1]
    cases q : sf ρ1 S with
    | bad => rw [q] at e2; exact e2.elim
    | nx ρ2 S2 => rw [q] at e2; exact ih ρ2 S2 e2
    | cont ρ2 S2 => rw [q] at e2; exact ih ρ2 S2 e2
    | brk ρ2 S2 => rw [q] at e2; exact e2
    | ret x S2 => rw [q] at e2; exact e2
    | exc x ρ2 S2 => rw [q] at e2; exact e2
theorem wps_forG {its : List Itm} (I : Nat → Rho → Store → Prop) (hc : ∀ k ρ S, I k ρ S → chk q S = true) (h0 : I 0 ρ S)
    (st : ∀ (j : Nat) (it : Itm), its[j]? = some it → ∀ ρ S, I j ρ S → ∃ ρ1, g it ρ = some ρ1 ∧ WpS (sf ρ1 S) ⟨I (j + 1), D.ret, D.nx, I (j + 1), D.exc⟩)
    (hn : ∀ ρ S, I its.length ρ S → D.nx ρ S) : WpS (forLG q g sf its ρ S) D := by
  refine wps_forGI I hc its 0 ρ S h0 (fun q it hq ρ S hI => ?_) (fun ρ S hI => hn ρ S (by rw [Nat.zero_add] at hI; exact hI))
  rw [Nat.zero_add] at hI ⊢
  exact st q it hq ρ S hI
end
end Z
set_option maxRecDepth 100000
set_option maxHeartbeats 4000000
/-! Z34: (a, b) = (x, y) where a value may be a changing list, whatever kinds of names they are. -/
namespace Z
open PySem PySem.Spec PyProof.Rows L2
section
variable {ι : Type} {X : ι → Cx} {K : PySem.W.Frag} {T : List Addr} {W : WX} {N : List Str}
variable {tg : Expr} {pos : Pos} {es : List Expr} {fs : AF} {g : GF} {ws : List Nat}
def rowF (g : GF) (n : Nat) (fs : AF) : SF := fun ρ S => (fs ρ S).toS ρ fun xs S1 => if xs.length ≤ n then match g (.row xs) ρ with
  | some ρ1 => .nx ρ1 S1
  | none => .bad else .bad
theorem ds_row {k : Nat} {p2 : Pos} (n : Nat) (hn : n ≤ sizeLine) (hg : DG X K T tg ws g) (ha : DA X K T W es fs) (hs : ∀ i, swapsWithSole [tg] (.Tuple es k p2) pos.line (X i).env = pure false := by intro _; rfl) (hw : ∀ i, swappedStores [tg] (.Tuple es k p2) (X i).env = pure none := by intro _; rfl)
    (h1 : ∀ i, (assignEach [tg] (X i).env).map (·.2) = [assign tg (X i).env] := by intro _; rfl) : DS X K T W (.Assign [tg] (.Tuple es k p2) pos) (rowF g n fs) := by
  obtain ⟨t, pt, ht⟩ := ha.ex
  obtain ⟨u, pu, hu⟩ := hg.ex
  refine ⟨tAsg (tTupF t) u, fun j => ps_asg (pe_tupF (pt j)) (pu j) (hs j) (hw j) (h1 j), fun P ρ S H m σ D w er h => ?_⟩
  refine ht P ρ S H m σ _ w er (PostS.step er h fun S1 H1 m1 vs xs t1 w1 r1 h1 => ?_)
  split at h1
  · rename_i hl
    cases q : g (.row xs) ρ with
    | none => simp only [q] at h1; exact h1.elim
    | some ρ1 =>
      simp only [q] at h1
      refine ⟨by rw [r1.length]; omega, fun p its hp => ?_⟩
      have tn := To.new (o := .frz (tupO its) (.tup vs)) w1 hp
      refine hu P ρ ρ1 S1 _ m1 σ (.ref p) (.row xs) _ (w1.new hp) ((er.to t1).to tn) ⟨p, vs, rfl, sqT_frz upd_same, tn.rpL r1⟩ q fun σ' e1 _ => ?_
      exact PostS.nx (w1.new hp) e1 (PostS.after tn h1)
  · exact h1.elim
@[simp] theorem e_rowF {n : Nat} {ρ : Rho} {S : Store} : rowF g n fs ρ S = (fs ρ S).toS ρ fun xs S1 => if xs.length ≤ n then match g (.row xs) ρ with
  | some ρ1 => .nx ρ1 S1
  | none => .bad else .bad := (rfl)
end
end Z
set_option maxRecDepth 100000
set_option maxHeartbeats 4000000
/-! Z35: dicts of the store: keys that are tuples of ints and texts; keys that are ints and texts. -/
namespace Z
open PySem PySem.Spec PyProof.Rows L2
section
variable {ι : Type} {X : ι → Cx} {K : PySem.W.Frag} {T : List Addr} {W : WX} {N : List Str}
variable {a b c e f tg : Expr} {fa fb fc fe ff : EF} {pos : Pos} {es tgs : List Expr} {fs : AF} {g : GF} {gs : GsF} {n : Nat}
variable {P : Addr → Prop} {S : Store} {H : Hp} {m : Nat → Addr} {σ : L2.St} {st : Stmt} {sts : List Stmt} {sf sg sh : SF}
theorem entW_eq (prog : Program) (w : World) : entryOfKey (tupleKind (mixKind prog w)) = entW w := rfl
theorem DqAll.kVs {L : Addr → Prop} : ∀ {k : List Key} {vs : List V}, DqAll H L vs (k.map keyD) → vs = k.map kV
  | [], _, h => by cases h; rfl
  | k :: r, _, h => by
    cases h with
    | cons a t =>
      rw [DqAll.kVs t]
      have : ∀ {v : V} {k : Key}, Dq H L v (keyD k) → v = kV k := fun {v k} q => by cases k <;> cases q <;> rfl
      rw [this a]
      rfl
def KeyV (H : Hp) (b : Addr) (k : List Key) : Prop := ∃ o, H b = some (.frz o (.tup (k.map kV)))
theorem Dq.keyV {L : Addr → Prop} {b : Addr} {k : List Key} (q : Dq H L (.ref b) (.tuple (k.map keyD))) : KeyV H b k := by
  cases q with
  | tup h d n r => rw [r.kVs] at h; exact ⟨_, h⟩
theorem KeyV.is {P : Program} {w : World} {h : Heap} {b : Addr} {k : List Key} (q : KeyV H b k) (ok : HOk P w H h) : (tupleKind (mixKind P w)).is h k b := by
  obtain ⟨o, e⟩ := q
  obtain ⟨_, _, its, r, o, h1, h2, n, h3⟩ := (show ObjOk P w H h b (.frz o (.tup (k.map kV))) from ok b _ e)
  exact ⟨o, its.toArray, n, h1, h2, h3, by simpa using items_are r⟩
abbrev KRel (K : PySem.W.Frag) (P : Addr → Prop) (S : Store) (H : Hp) (m : Nat → Addr) : List Key × EV → List Key × Addr × Value → Prop :=
  fun p q => p.1 = q.1 ∧ Dq H (LP P S m) (.ref q.2.1) (.tuple (p.1.map keyD)) ∧ ∃ v, RelV v q.2.2 ∧ Rp K P S H m v p.2
theorem krel_keys {kvs : List (List Key × EV)} {xs : List (List Key × Addr × Value)} (r : Paired (KRel K P S H m) kvs xs) : ∀ q ∈ xs, KeyV H q.2.1 q.1 := by
  induction r with
  | nil => exact fun q hq => nomatch hq
  | @cons p q ps qs h t ih =>
    intro z hz
    rcases List.mem_cons.mp hz with e | hz
    · subst e; rw [← h.1]; exact h.2.1.keyV
    · exact ih z hz
/-- the dict's object, and its keys -/
structure DtA (w : World) (H : Hp) (a : Addr) (xs : List (List Key × Addr × Value)) : Prop where
  at_ : H a = some (.ext (DtI w a xs))
  keys : ∀ q ∈ xs, KeyV H q.2.1 q.1
theorem DtA.of {X : Cx} {pins : List (Addr × Obj)} {σ : L2.St} {s : Shared} {a : Addr} {xs : List (List Key × Addr × Value)} (I : Inv X pins σ H s) (d : DtA X.w H a xs) :
    xs.length ≤ sizeLine ∧ (a == sysModules) = false ∧ s.heap.DictOfH (tupleKind (mixKind X.prog X.w)) a xs := by
  obtain ⟨⟨z, hd, o, es, ep, h1, h2, h3, h4, h5⟩, _⟩ := (show ObjOk X.prog X.w H s.heap a (.ext (DtI X.w a xs)) from I.hok a _ d.at_)
  exact ⟨z, hd, o, es, ep, h1, h2, h3, h4, fun q hq => (d.keys q hq).is I.hok, h5⟩
/-! ### the rules -/
def rInT (w : World) (neg : Bool) : V → V → Hp → VK → Prop := fun x y H Q => ∃ a b k xs, y = .ref a ∧ x = .ref b ∧ DtA w H a xs ∧ KeyV H b k ∧ Q (.bl (neg ^^ (atKey xs k).isSome)) H
theorem op_tIn {X : Cx} (hu : X.A.units + 1 < cLine) : OpR X (compareOp .In) (rInT X.w false) := by
  intro pins s σ H x y v u Q I rx ry h
  obtain ⟨a, b, k, xs, rfl, rfl, d, kk, q⟩ := h
  obtain rfl : u = Value.ref a := ry
  obtain rfl : v = Value.ref b := rx
  obtain ⟨z, hd, dd⟩ := d.of I
  exact wpAny_in_heap (tupleKind_room_in1 hu) (kk.is I.hok) hd dd ⟨.bl (false ^^ (atKey xs k).isSome), H, I.tok _, (by rw [Bool.false_xor]; rfl), q⟩
theorem op_tNotIn {X : Cx} (hu : X.A.units + 1 < cLine) : OpR X (compareOp .NotIn) (rInT X.w true) := by
  intro pins s σ H x y v u Q I rx ry h
  obtain ⟨a, b, k, xs, rfl, rfl, d, kk, q⟩ := h
  obtain rfl : u = Value.ref a := ry
  obtain rfl : v = Value.ref b := rx
  obtain ⟨z, hd, dd⟩ := d.of I
  exact wpAny_notIn_heap (tupleKind_room_in1 hu) (kk.is I.hok) hd dd ⟨.bl (true ^^ (atKey xs k).isSome), H, I.tok _, (by rw [Bool.true_xor]; rfl), q⟩
def rSetT (w : World) : V → V → V → Hp → (Hp → Prop) → Prop := fun o i v H Q => ∃ a b k xs, o = .ref a ∧ i = .ref b ∧ DtA w H a xs ∧ KeyV H b k ∧ xs.length < sizeLine ∧
  ∀ u, RelV v u → Q (upd H a (.ext (DtI w a (storedH xs k b u))))
theorem stored_len {xs : List (List Key × Addr × Value)} {k : List Key} {b : Addr} {u : Value} (h : xs.length < sizeLine) : (storedH xs k b u).length ≤ sizeLine := by
  unfold storedH
  split
  · rw [List.length_map]; omega
  · rw [List.length_append]; exact h
theorem set_tup {X : Cx} (hu : X.A.units + 1 < cLine) : PSet X (rSetT X.w) := by
  intro pins s σ H o i v ov iv u Q I ro ri rv h
  obtain ⟨a, b, k, xs, rfl, rfl, d, kk, hl, q⟩ := h
  obtain rfl : ov = Value.ref a := ro
  obtain rfl : iv = Value.ref b := ri
  obtain ⟨z, hd, dd⟩ := d.of I
  refine wpAny_setItem_heap (hsz := z) (tupleKind_room_in1 hu) (kk.is I.hok) dd fun h' dd' hs => ⟨_, ?_, q u rv⟩
  obtain ⟨ob, es, ep, hq, h2, h3, h4, _, h5⟩ := dd'
  refine d_write I (by rw [d.at_]; exact True.intro) hs ⟨ob, hq⟩ ⟨⟨stored_len hl, hd, ob, es, ep, hq, h2, h3, h4, h5⟩, ⟨ob, hq⟩, fun h1 h2' φ1 k1 => ?_⟩
  obtain ⟨z1, z2, o1, es1, ep1, g1, g2⟩ := φ1
  exact ⟨z1, z2, o1, es1, ep1, k1 _ g1, g2⟩
def tDNewP (w : World) : TE := fun _ H Q => ∀ p, H p = none → Q (.ref p) (upd H p (.ext (DtI w p [])))
theorem pe_dnewP {X : Cx} {pos : Pos} : PE X (.Dict [] [] pos) (tDNewP X.w) := ⟨fun pins s σ H Q I h =>
  wpAny_Dict_empty ⟨.ref s.heap.objs.size, _, I.laid (a := s.heap.objs.size) (o := .ext (DtI X.w s.heap.objs.size [])) (t' := s.toks) (fun _ _ q => Heap.get?_push_of_some _ q) (Nat.le_refl _)
    ⟨⟨Nat.zero_le _, beq_eq_false_iff_ne.mpr (Ne.symm (Nat.ne_of_lt I.big)), _, #[], 0, Heap.get?_push_size _ rfl, ⟨rfl, rfl, rfl⟩, rfl, rfl, List.nodup_nil⟩, ⟨_, Heap.get?_push_size _ rfl⟩, fun h1 h2 φ1 k1 => by
      obtain ⟨z1, z2, o1, es1, ep1, g1, g2⟩ := φ1
      exact ⟨z1, z2, o1, es1, ep1, k1 _ g1, g2⟩⟩, rfl, h _ (I.hok.fresh (Nat.le_refl _))⟩⟩
def tTGet2 (w : World) (td ty tx : TE) : TE := fun σ H Q => td σ H fun x H1 => (∃ a xs, x = .ref a ∧ DtA w H1 a xs) ∧ ty σ H1 fun y H2 => tx σ H2 fun z H3 => ∃ a b k xs, x = .ref a ∧ y = .ref b ∧ DtA w H3 a xs ∧ KeyV H3 b k ∧
  ((atKey xs k = none ∧ Q z H3) ∨ ∃ p v, atKey xs k = some p ∧ RelV v p.2 ∧ Q v H3)
theorem pe_tget2 {X : Cx} {o e f : Expr} {apos cpos : Pos} {td ty tx : TE} (hu : X.A.units + 1 < cLine) (ho : PE X o td) (he : PE X e ty) (hf : PE X f tx) (mm : M2 X o "get" apos e f cpos) :
    PE X (.Call (.Attribute o "get" apos) [e, f] [] cpos) (tTGet2 X.w td ty tx) := by
  refine ⟨fun pins s σ H Q I h => ?_⟩
  refine wpAny_Call_method mm.base mm.few mm.line PySem.F.plainAttrs_dict PySem.F.slot_dict_get PySem.F.type_dict_get (thn (ho.run pins s σ H _ I h) fun u s1 ⟨x, H1, I1, rx, ⟨a0, xs0, ex0, d0⟩, q1⟩ => ?_)
  subst ex0
  obtain rfl : u = Value.ref a0 := rx
  obtain ⟨_, hd0, ob, es0, ep0, g1, g2, _⟩ := d0.of I1
  refine ⟨⟨ob, g1, g2.1⟩, fun b q => by cases q; exact ⟨ob, g1, g2.2.1⟩, ?_⟩
  rw [mm.trees]
  refine Calls.callWith_builtin rfl (Calls.evalArgs_plain (Calls.spliced_cons (thn (he.run pins s1 σ H1 _ I1 q1) fun iv s2 ⟨y, H2, I2, ry, q2⟩ =>
    Calls.spliced_cons (thn (hf.run pins s2 σ H2 _ I2 q2) fun fv s3 ⟨z, H3, I3, rz, a, b, k, xs, ea, eb, d, kk, q3⟩ => Calls.spliced_nil ?_))))
  cases ea
  subst eb
  obtain rfl : iv = Value.ref b := ry
  obtain ⟨_, hd, dd⟩ := d.of I3
  refine call_meetsIn PySem.F.slot_dict_get dd.typeIs PySem.F.entry_dict_get (PySem.F.args_dict_get_3 _ _ _) (meetsH_dict_get_default (tupleKind (mixKind X.prog X.w)) a0 b hd fv) ⟨tupleKind_room_in1 hu, k, xs, kk.is I3.hok, dd, ?_⟩
  rcases q3 with ⟨l, q⟩ | ⟨p, v, l, rv, q⟩
  · rw [l]; exact ⟨z, H3, I3.tok _, rz, q⟩
  · rw [l]; exact ⟨v, H3, I3.tok _, rv, q⟩
/-! ### the store -/
theorem Wd.allocD (w : Wd K P S H m T) {p : Addr} {w0 : World} (hp : H p = none) : Wd K P (S ++ [.dtp w0 []]) (upd H p (.ext (DtI w0 p []))) (ext1 m S.length p) T where
  ok := fun n u h => by
    have t := To.alloc (o := .ext (DtI w0 p [])) (u := .dtp w0 []) w hp
    rcases getE_snoc h with ⟨hn, hu⟩ | ⟨rfl, rfl⟩
    · rw [ext1_ne (Nat.ne_of_lt hn)]
      by_cases g : u = .gone
      · rw [g]; trivial
      · exact SOk.to t (upd_ne fun e => w.some_ hu g (by rw [e]; exact hp)) (w.ok n u hu)
    · rw [ext1_same]
      exact ⟨[], upd_same, .nil⟩
  inj := fun i j a b hi hj ga gb e => by
    rcases getE_snoc hi with ⟨h1, h2⟩ | ⟨rfl, rfl⟩ <;> rcases getE_snoc hj with ⟨h3, h4⟩ | ⟨rfl, rfl⟩
    · rw [ext1_ne (Nat.ne_of_lt h1), ext1_ne (Nat.ne_of_lt h3)] at e
      exact w.inj i j a b h2 h4 ga gb e
    · rw [ext1_ne (Nat.ne_of_lt h1), ext1_same] at e
      exact absurd (by rw [e]; exact hp) (w.some_ h2 ga)
    · rw [ext1_ne (Nat.ne_of_lt h3), ext1_same] at e
      exact absurd (by rw [← e]; exact hp) (w.some_ h4 gb)
    · rfl
  tab := fun q hq => tabG_upd (w.tab q hq) hp
  prv := fun a ha => ⟨(To.new (o := .ext (DtI w0 p [])) w hp).some_ a (w.prv a ha).1, fun h => (live_snoc h).elim (w.prv a ha).2 fun e => (w.prv a ha).1 (by rw [e]; exact hp)⟩
/-- a thing of the store is written -/
theorem To.writeX {n : Nat} {o o' : SO} {h' : HO} (h : S[n]? = some o) (ho : o ≠ .gone) : To P S H m (S.set n o') (upd H (m n) h') m where
  keep := fun a u ha nl _ => by rw [upd_ne fun e => nl ⟨n, _, h, ho, e.symm⟩]; exact ha
  ext := fun _ _ => rfl
  le := by rw [List.length_set]; exact Nat.le_refl _
  live := fun a z => .inl (live_set h ho z)
  some_ := fun a ha => by
    by_cases e : a = m n
    · rw [e, upd_same]; exact fun z => by cases z
    · rw [upd_ne e]; exact ha
theorem Wd.writeX (w : Wd K P S H m T) {n : Nat} {o o' : SO} {h' : HO} (h : S[n]? = some o) (ho : o ≠ .gone) (nt : ∀ ps, H (m n) ≠ some (.tbl ps)) (r : SOk K P (S.set n o') (upd H (m n) h') m (m n) o') : Wd K P (S.set n o') (upd H (m n) h') m T where
  ok := fun k u hk => by
    have t : To P S H m (S.set n o') (upd H (m n) h') m := To.writeX h ho
    by_cases e : n = k
    · subst e
      have hl : n < S.length := (List.getElem?_eq_some_iff.mp h).1
      rw [List.getElem?_set_self hl] at hk
      cases hk
      exact r
    · rw [List.getElem?_set_ne e] at hk
      by_cases g : u = .gone
      · rw [g]; trivial
      · exact SOk.to t (upd_ne fun z => e (w.inj k n u _ hk h g ho z).symm) (w.ok k u hk)
  inj := fun i j a b hi hj ga gb e => by
    have mem : ∀ {i : Nat} {a : SO}, (S.set n o')[i]? = some a → a ≠ .gone → ∃ a', S[i]? = some a' ∧ a' ≠ .gone := fun {i a} hi ga => by
      by_cases e : n = i
      · subst e; exact ⟨_, h, ho⟩
      · rw [List.getElem?_set_ne e] at hi; exact ⟨a, hi, ga⟩
    obtain ⟨a', h1, g1⟩ := mem hi ga
    obtain ⟨b', h2, g2⟩ := mem hj gb
    exact w.inj i j a' b' h1 h2 g1 g2 e
  tab := fun q hq => by
    obtain ⟨ps, e, r⟩ := w.tab q hq
    exact ⟨ps, by rw [upd_ne fun z => nt ps (by rw [← z]; exact e)]; exact e, r⟩
  prv := fun a ha => ⟨(To.writeX (P := P) (o' := o') (h' := h') h ho).some_ a (w.prv a ha).1, fun z => (w.prv a ha).2 (live_set h ho z)⟩
/-! ### the plain functions -/
noncomputable def wOk (w0 w1 : World) : Bool := @decide (w1 = w0) (Classical.propDecidable _)
@[simp] theorem wOk_same (w : World) : wOk w w = true := by unfold wOk; simp
theorem wOk_eq {w0 w1 : World} (h : wOk w0 w1 = true) : w1 = w0 := by unfold wOk at h; simpa using h
def keysOf : List PyData → Option (List Key)
  | [] => some []
  | d :: r => match keyOf d, keysOf r with
    | some k, some ks => some (k :: ks)
    | _, _ => none
theorem keysOf_keyD : ∀ k : List Key, keysOf (k.map keyD) = some k
  | [] => rfl
  | a :: r => by simp [keysOf, keyOf_keyD, keysOf_keyD r]
theorem keysOf_eq : ∀ {ds : List PyData} {k : List Key}, keysOf ds = some k → ds = k.map keyD
  | [], k, h => by cases h; rfl
  | d :: r, k, h => by
    simp only [keysOf] at h
    cases q : keyOf d with
    | none => simp [q] at h
    | some k1 =>
      cases q2 : keysOf r with
      | none => simp [q, q2] at h
      | some ks =>
        simp only [q, q2] at h
        cases h
        rw [keysOf_eq q2, List.map_cons]
        congr 1
        cases d <;> cases q <;> rfl
def tlook : List (List Key × EV) → List Key → Option EV
  | [], _ => none
  | (k', x) :: r, k => if k' = k then some x else tlook r k
def tput (kvs : List (List Key × EV)) (k : List Key) (x : EV) : List (List Key × EV) := if (tlook kvs k).isSome then kvs.map fun p => if p.1 = k then (p.1, x) else p else kvs ++ [(k, x)]
theorem tlook_H {kvs : List (List Key × EV)} {xs : List (List Key × Addr × Value)} (k : List Key) (r : Paired (KRel K P S H m) kvs xs) :
    (tlook kvs k = none ∧ atKey xs k = none) ∨ ∃ x p v, tlook kvs k = some x ∧ atKey xs k = some p ∧ RelV v p.2 ∧ Rp K P S H m v x := by
  induction r with
  | nil => exact .inl ⟨rfl, rfl⟩
  | @cons p q ps qs h t ih =>
    obtain ⟨p1, p2⟩ := p
    obtain ⟨h1, _, v, h2, h3⟩ := h
    simp only at h1
    by_cases e : p1 = k
    · have e' : q.1 = k := h1.symm.trans e
      exact .inr ⟨p2, q.2, v, by simp [tlook, e], by simp [atKey, List.find?_cons, e'], h2, h3⟩
    · have e' : ¬ q.1 = k := fun z => e (h1.trans z)
      have b : atKey (q :: qs) k = atKey qs k := by simp [atKey, List.find?_cons, e']
      have b2 : tlook ((p1, p2) :: ps) k = tlook ps k := by simp [tlook, e]
      rw [b, b2]
      exact ih
theorem krel_put {kvs : List (List Key × EV)} {xs : List (List Key × Addr × Value)} {k : List Key} {b : Addr} {x : EV} {v : V} {u : Value} (r : Paired (KRel K P S H m) kvs xs)
    (hb : Dq H (LP P S m) (.ref b) (.tuple (k.map keyD))) (rv : RelV v u) (rx : Rp K P S H m v x) : Paired (KRel K P S H m) (tput kvs k x) (storedH xs k b u) := by
  have e : (tlook kvs k).isSome = (atKey xs k).isSome := by
    rcases tlook_H k r with ⟨h1, h2⟩ | ⟨_, _, _, h1, h2, _⟩ <;> rw [h1, h2] <;> rfl
  unfold tput storedH
  rw [e]
  by_cases q : (atKey xs k).isSome = true
  · rw [if_pos q, if_pos q]
    clear e q
    induction r with
    | nil => exact .nil
    | @cons p q ps qs h t ih =>
      rw [List.map_cons, List.map_cons]
      refine .cons ?_ ih
      obtain ⟨h1, h2, h3⟩ := h
      unfold putAt
      by_cases e : p.1 = k
      · rw [if_pos e, if_pos (h1.symm.trans e)]; exact ⟨h1, h2, v, rv, rx⟩
      · rw [if_neg e, if_neg (fun z => e (h1.trans z))]; exact ⟨h1, h2, h3⟩
  · rw [if_neg q, if_neg q]; exact Paired.snoc r ⟨rfl, hb, v, rv, rx⟩
noncomputable def gInTp (w0 : World) (neg : Bool) : EV → EV → Store → Res EV := fun x y S => match x, y with
  | .d (.tuple ds), .own n => match keysOf ds, S[n]? with
    | some k, some (.dtp w1 kvs) => if wOk w0 w1 = true then .ok (.d (.bool (neg ^^ (tlook kvs k).isSome))) S else .bad
    | _, _ => .bad
  | _, _ => .bad
theorem inTp_H {w0 : World} {neg : Bool} {x y : EV} {v u : V} {Q : VK} (w : Wd K P S H m T) (r1 : Rp K P S H m v x) (r2 : Rp K P S H m u y) (h : Post K T P (RelE K P) S H m σ W (gInTp w0 neg x y S) Q) : rInT w0 neg v u H Q := by
  unfold gInTp at h
  split at h
  · rename_i ds n
    split at h
    · rename_i k w1 kvs ek eS
      split at h
      · rename_i hw
        obtain rfl := wOk_eq hw
        obtain rfl := keysOf_eq ek
        obtain ⟨rfl, hn⟩ := r2
        obtain ⟨xs, h1, h2⟩ := w.ok n _ eS
        have r1' : Dq H (LP P S m) v (.tuple (k.map keyD)) := r1
        have : ∃ b, v = .ref b := by cases r1' with | tup _ _ _ _ => exact ⟨_, rfl⟩
        obtain ⟨b, rfl⟩ := this
        refine ⟨_, b, k, xs, rfl, rfl, ⟨h1, krel_keys h2⟩, r1'.keyV, ?_⟩
        have e : (tlook kvs k).isSome = (atKey xs k).isSome := by
          rcases tlook_H k h2 with ⟨h1, h2⟩ | ⟨_, _, _, h1, h2, _⟩ <;> rw [h1, h2] <;> rfl
        rw [← e]
        exact Post.done (Rel := RelE K P) w h (Dq.bl _)
      · exact h.elim
    · exact h.elim
  · exact h.elim
theorem opd_inTp {w0 : World} (F : Fam X K N) (hw : ∀ i, (X i).w = w0) : OpD X K T (compareOp .In) (gInTp w0 false) :=
  ⟨rInT w0 false, fun i => by have := op_tIn (X := X i) (Nat.lt_of_le_of_lt (Nat.add_le_add_left (by decide) _) (F.hu i)); rw [hw i] at this; exact this, fun P S H m σ W x y v u Q w r1 r2 h => inTp_H w r1 r2 h⟩
theorem opd_notInTp {w0 : World} (F : Fam X K N) (hw : ∀ i, (X i).w = w0) : OpD X K T (compareOp .NotIn) (gInTp w0 true) :=
  ⟨rInT w0 true, fun i => by have := op_tNotIn (X := X i) (Nat.lt_of_le_of_lt (Nat.add_le_add_left (by decide) _) (F.hu i)); rw [hw i] at this; exact this, fun P S H m σ W x y v u Q w r1 r2 h => inTp_H w r1 r2 h⟩
def dnewTF (w0 : World) : EF := fun _ S => .ok (.own S.length) (S ++ [.dtp w0 []])
theorem de_dnewT {w0 : World} (hw : ∀ i, (X i).w = w0) : DE X K T W (.Dict [] [] pos) (dnewTF w0) :=
  ⟨tDNewP w0, fun i => by have := pe_dnewP (X := X i) (pos := pos); rw [hw i] at this; exact this, fun P ρ S H m σ Q w er h p hp =>
    h _ _ _ (To.alloc w hp) (w.allocD hp) ⟨by rw [ext1_same], by rw [List.length_append]; exact Nat.lt_succ_self _⟩⟩
noncomputable def putT (w0 : World) (x i y : EV) (S : Store) : Option Store := match x, i with
  | .own n, .d (.tuple ds) => match keysOf ds, S[n]? with
    | some k, some (.dtp w1 kvs) => if wOk w0 w1 = true ∧ kvs.length < sizeLine then some (S.set n (.dtp w1 (tput kvs k y))) else none
    | _, _ => none
  | _, _ => none
theorem putT_H {w0 : World} {x i y : EV} {S' : Store} {o v u : V} {Q : Hp → Prop} (w : Wd K P S H m T) (ro : Rp K P S H m o x) (ri : Rp K P S H m v i) (ry : Rp K P S H m u y) (e : putT w0 x i y S = some S')
    (h : ∀ H', To P S H m S' H' m → Wd K P S' H' m T → Q H') : rSetT w0 o v u H Q := by
  unfold putT at e
  split at e
  · rename_i n ds
    split at e
    · rename_i k w1 kvs ek eS
      split at e
      · rename_i hw
        cases e
        obtain rfl := wOk_eq hw.1
        obtain rfl := keysOf_eq ek
        obtain ⟨rfl, hn⟩ := ro
        obtain ⟨xs, h1, h2⟩ := w.ok n _ eS
        have ri' : Dq H (LP P S m) v (.tuple (k.map keyD)) := ri
        have : ∃ b, v = .ref b := by cases ri' with | tup _ _ _ _ => exact ⟨_, rfl⟩
        obtain ⟨b, rfl⟩ := this
        have hl : xs.length < sizeLine := by rw [← Paired.length h2]; exact hw.2
        have ng : (SO.dtp w1 kvs) ≠ .gone := fun z => by cases z
        refine ⟨m n, b, k, xs, rfl, rfl, ⟨h1, krel_keys h2⟩, ri'.keyV, hl, fun uv ruv => ?_⟩
        have t : To P S H m (S.set n (.dtp w1 (tput kvs k y))) (upd H (m n) (.ext (DtI w1 (m n) (storedH xs k b uv)))) m := To.writeX eS ng
        refine h _ t (w.writeX eS ng (fun ps z => by rw [h1] at z; cases z) ⟨_, upd_same, ?_⟩)
        exact Paired.mapP (krel_put h2 ri' ruv ry) fun p q z => ⟨z.1, t.dq z.2.1, z.2.2.imp fun _ z => ⟨z.1, t.rp z.2⟩⟩
      · cases e
    · cases e
  · cases e
noncomputable def setTF (w0 : World) (fo fi f : EF) : SF := fun ρ S => (f ρ S).toS ρ fun y S1 => (fo ρ S1).toS ρ fun x S2 => (fi ρ S2).toS ρ fun i S3 => match putT w0 x i y S3 with
  | some S4 => .nx ρ S4
  | none => .bad
theorem ds_setT {w0 : World} (F : Fam X K N) (hw0 : ∀ i, (X i).w = w0) {o i : Expr} {fo fi : EF} {p : Pos} (ho : DE X K T W o fo) (hi : DE X K T W i fi) (he : DE X K T W e fe)
    (ha : ∀ j v, assign (.Subscript o i p) (X j).env v = (do
      let ov ← holding [v] (eval o (X j).env)
      let iv ← holding [v, ov] (eval i (X j).env)
      standAt p
      holding [v, ov, iv] (setItem ov iv v)
      release [v, ov, iv] []) := by intro _ _; rfl)
    (hs : ∀ j, swapsWithSole [.Subscript o i p] e pos.line (X j).env = pure false := by intro _; rfl) (hw : ∀ j, swappedStores [.Subscript o i p] e (X j).env = pure none := by intro _; rfl)
    (h1 : ∀ j, (assignEach [.Subscript o i p] (X j).env).map (·.2) = [assign (.Subscript o i p) (X j).env] := by intro _; rfl) : DS X K T W (.Assign [.Subscript o i p] e pos) (setTF w0 fo fi fe) := by
  obtain ⟨t, pt, ht⟩ := he.ex
  obtain ⟨to, po, hO⟩ := ho.ex
  obtain ⟨ti, pi, hI⟩ := hi.ex
  refine ⟨tAsg t (gSub to ti (rSetT w0)), fun j => ps_asg (pt j) (pg_sub (po j) (pi j) (by have := set_tup (X := X j) (Nat.lt_of_le_of_lt (Nat.add_le_add_left (by decide) _) (F.hu j)); rw [hw0 j] at this; exact this) (ha j)) (hs j) (hw j) (h1 j), fun P ρ S H m σ D w er h => ?_⟩
  refine ht P ρ S H m σ _ w er (PostS.step er h fun S1 H1 m1 u y t1 w1 r1 h1 => ?_)
  refine hO P ρ S1 H1 m1 σ _ w1 (er.to t1) (PostS.step (er.to t1) h1 fun S2 H2 m2 o x t2 w2 r2 h2 => ?_)
  refine hI P ρ S2 H2 m2 σ _ w2 ((er.to t1).to t2) (PostS.step ((er.to t1).to t2) h2 fun S3 H3 m3 v i t3 w3 r3 h3 => ?_)
  cases q : putT w0 x i y S3 with
  | none => simp only [q] at h3; exact h3.elim
  | some S4 =>
    simp only [q] at h3
    exact putT_H w3 (t3.rp r2) r3 (t3.rp (t2.rp r1)) q fun H' t4 w4 => PostS.nx w4 ((((er.to t1).to t2).to t3).to t4) (PostS.after t4 h3)
/-- d.get(k, x) -/
noncomputable def get2F (w0 : World) (fo fe ff : EF) : EF := fun ρ S => (fo ρ S).bind fun x S1 => match x with
  | .own n => match S1[n]? with
    | some (.dtp w1 _) => if wOk w0 w1 = true then (fe ρ S1).bind fun y S2 => (ff ρ S2).bind fun z S3 => match y with
      | .d (.tuple ds) => match keysOf ds, S3[n]? with
        | some k, some (.dtp w2 kvs) => if wOk w0 w2 = true then .ok ((tlook kvs k).getD z) S3 else .bad
        | _, _ => .bad
      | _ => .bad
      else .bad
    | _ => .bad
  | _ => .bad
theorem de_get2 {w0 : World} (F : Fam X K N) (hw0 : ∀ i, (X i).w = w0) {o : Expr} {fo : EF} {ap : Pos} (ho : DE X K T W o fo) (he : DE X K T W e fe) (hf : DE X K T W f ff)
    (mm : ∀ i, M2 (X i) o "get" ap e f pos := by intro _; exact ⟨rfl, rfl, rfl, rfl⟩) : DE X K T W (.Call (.Attribute o "get" ap) [e, f] [] pos) (get2F w0 fo fe ff) := by
  obtain ⟨to, po, hO⟩ := ho.ex
  obtain ⟨te, pte, hE⟩ := he.ex
  obtain ⟨tf, ptf, hF⟩ := hf.ex
  refine ⟨tTGet2 w0 to te tf, fun i => by have := pe_tget2 (X := X i) (Nat.lt_of_le_of_lt (Nat.add_le_add_left (by decide) _) (F.hu i)) (po i) (pte i) (ptf i) (mm i); rw [hw0 i] at this; exact this, fun P ρ S H m σ Q w er h => ?_⟩
  refine hO P ρ S H m σ _ w er (Post.step h fun S1 H1 m1 v x t1 w1 r1 h1 => ?_)
  cases x with
  | d _ => exact h1.elim
  | scr _ => exact h1.elim
  | own n =>
    simp only at h1
    cases eS : S1[n]? with
    | none => simp only [eS] at h1; exact h1.elim
    | some so =>
      cases so with
      | gone => simp only [eS] at h1; exact h1.elim
      | lst _ => simp only [eS] at h1; exact h1.elim
      | dct _ => simp only [eS] at h1; exact h1.elim
      | dtp w1' kvs1 =>
        simp only [eS] at h1
        by_cases hw : wOk w0 w1' = true
        · rw [if_pos hw] at h1
          obtain rfl := wOk_eq hw
          obtain ⟨rfl, hn⟩ := r1
          obtain ⟨xs1, g1, g2⟩ := w1.ok n _ eS
          refine ⟨⟨_, xs1, rfl, g1, krel_keys g2⟩, ?_⟩
          refine hE P ρ S1 H1 m1 σ _ w1 (er.to t1) (Post.step h1 fun S2 H2 m2 u y t2 w2 r2 h2 => ?_)
          refine hF P ρ S2 H2 m2 σ _ w2 ((er.to t1).to t2) (Post.step h2 fun S3 H3 m3 u3 z t3 w3 r3 h3 => ?_)
          have em : m3 n = m1 n := by rw [t3.ext n (Nat.lt_of_lt_of_le hn t2.le), t2.ext n hn]
          have r2' := t3.rp r2
          cases y with
          | own _ => exact h3.elim
          | scr _ => exact h3.elim
          | d yd =>
            cases yd with
            | tuple ds =>
              simp only at h3
              cases ek : keysOf ds with
              | none => simp only [ek] at h3; exact h3.elim
              | some k =>
                cases eS3 : S3[n]? with
                | none => simp only [ek, eS3] at h3; exact h3.elim
                | some so3 =>
                  cases so3 with
                  | gone => simp only [ek, eS3] at h3; exact h3.elim
                  | lst _ => simp only [ek, eS3] at h3; exact h3.elim
                  | dct _ => simp only [ek, eS3] at h3; exact h3.elim
                  | dtp w2' kvs =>
                    simp only [ek, eS3] at h3
                    by_cases hw2 : wOk w1' w2' = true
                    · rw [if_pos hw2] at h3
                      obtain rfl := wOk_eq hw2
                      obtain rfl := keysOf_eq ek
                      obtain ⟨xs, k1, k2⟩ := w3.ok n _ eS3
                      have r2'' : Dq H3 (LP P S3 m3) u (.tuple (k.map keyD)) := r2'
                      have : ∃ b, u = .ref b := by cases r2'' with | tup _ _ _ _ => exact ⟨_, rfl⟩
                      obtain ⟨b, rfl⟩ := this
                      rw [em] at k1
                      refine ⟨m1 n, b, k, xs, rfl, rfl, ⟨k1, krel_keys k2⟩, r2''.keyV, ?_⟩
                      rcases tlook_H k k2 with ⟨l1, l2⟩ | ⟨x, p, v, l1, l2, rv, rx⟩
                      · rw [l1] at h3
                        exact .inl ⟨l2, Post.done (Rel := RelE K P) w3 h3 r3⟩
                      · rw [l1] at h3
                        exact .inr ⟨p, v, l2, rv, Post.done (Rel := RelE K P) w3 h3 rx⟩
                    · rw [if_neg hw2] at h3
                      exact h3.elim
            | none => exact h3.elim
            | bool _ => exact h3.elim
            | int _ => exact h3.elim
            | str _ => exact h3.elim
            | list _ => exact h3.elim
            | dict _ => exact h3.elim
        · rw [if_neg hw] at h1
          exact h1.elim
end
end Z
set_option maxRecDepth 100000
set_option maxHeartbeats 4000000
/-! Z36: dicts of the store with int and text keys: new, written, given up; dict(list of pairs). -/
namespace Z
open PySem PySem.Spec PyProof.Rows L2
section
variable {ι : Type} {X : ι → Cx} {K : PySem.W.Frag} {T : List Addr} {W : WX} {N : List Str}
variable {a b c e f tg : Expr} {fa fb fc fe ff : EF} {pos : Pos} {es tgs : List Expr} {fs : AF} {g : GF} {gs : GsF} {n : Nat}
variable {P : Addr → Prop} {S : Store} {H : Hp} {m : Nat → Addr} {σ : L2.St} {st : Stmt} {sts : List Stmt} {sf sg sh : SF}
theorem Wd.allocK (w : Wd K P S H m T) {p : Addr} (hp : H p = none) : Wd K P (S ++ [.dct []]) (upd H p (.dK [])) (ext1 m S.length p) T where
  ok := fun n u h => by
    have t := To.alloc (o := .dK []) (u := .dct []) w hp
    rcases getE_snoc h with ⟨hn, hu⟩ | ⟨rfl, rfl⟩
    · rw [ext1_ne (Nat.ne_of_lt hn)]
      by_cases g : u = .gone
      · rw [g]; trivial
      · exact SOk.to t (upd_ne fun e => w.some_ hu g (by rw [e]; exact hp)) (w.ok n u hu)
    · rw [ext1_same]
      exact ⟨[], upd_same, .nil⟩
  inj := fun i j a b hi hj ga gb e => by
    rcases getE_snoc hi with ⟨h1, h2⟩ | ⟨rfl, rfl⟩ <;> rcases getE_snoc hj with ⟨h3, h4⟩ | ⟨rfl, rfl⟩
    · rw [ext1_ne (Nat.ne_of_lt h1), ext1_ne (Nat.ne_of_lt h3)] at e
      exact w.inj i j a b h2 h4 ga gb e
    · rw [ext1_ne (Nat.ne_of_lt h1), ext1_same] at e
      exact absurd (by rw [e]; exact hp) (w.some_ h2 ga)
    · rw [ext1_ne (Nat.ne_of_lt h3), ext1_same] at e
      exact absurd (by rw [← e]; exact hp) (w.some_ h4 gb)
    · rfl
  tab := fun q hq => tabG_upd (w.tab q hq) hp
  prv := fun a ha => ⟨(To.new (o := .dK []) w hp).some_ a (w.prv a ha).1, fun h => (live_snoc h).elim (w.prv a ha).2 fun e => (w.prv a ha).1 (by rw [e]; exact hp)⟩
def dnewKF : EF := fun _ S => .ok (.own S.length) (S ++ [.dct []])
theorem de_dnewK : DE X K T W (.Dict [] [] pos) dnewKF :=
  ⟨tDNewK, fun i => pe_dnewK, fun P ρ S H m σ Q w er h p hp =>
    h _ _ _ (To.alloc w hp) (w.allocK hp) ⟨by rw [ext1_same], by rw [List.length_append]; exact Nat.lt_succ_self _⟩⟩
def kputE (kvs : List (Key × EV)) (k : Key) (d : EV) : List (Key × EV) :=
  if (kvs.any fun kv => decide (kv.1 = k)) = true then kvs.map (fun kv => if kv.1 = k then (kv.1, d) else kv) else kvs ++ [(k, d)]
theorem rpk_any {k : Key} : ∀ {vs : List (Key × V)} {kvs : List (Key × EV)}, RpKV K P S H m vs kvs → (vs.any fun kv => decide (kv.1 = k)) = (kvs.any fun kv => decide (kv.1 = k))
  | [], [], .nil => rfl
  | (k1, v) :: vs, (k2, d) :: kvs, .cons h t => by
    have e : k1 = k2 := h.1
    subst e
    simp only [List.any_cons, rpk_any t]
theorem rpk_put {k : Key} {v : V} {x : EV} {vs : List (Key × V)} {kvs : List (Key × EV)} (r : Rp K P S H m v x) (h : RpKV K P S H m vs kvs) : RpKV K P S H m (putK vs k v) (kputE kvs k x) := by
  unfold putK kputE
  rw [rpk_any h]
  split
  · rename_i hz
    clear hz
    induction h with
    | nil => exact .nil
    | @cons p q ps qs h t ih =>
      refine .cons ?_ ih
      obtain ⟨h1, h2⟩ := h
      by_cases z : p.1 = k
      · have z' : q.1 = k := h1.symm.trans z
        simp only [z, z', if_true]; exact ⟨trivial, r⟩
      · have z' : ¬ q.1 = k := fun y => z (h1.trans y)
        simp only [z, z', if_false]; exact ⟨h1, h2⟩
  · exact Paired.snoc h ⟨rfl, r⟩
def putKE (x i y : EV) (S : Store) : Option Store := match x, i with
  | .own n, .d d => match keyOf d, S[n]? with
    | some k, some (.dct kvs) => if kvs.length < sizeLine then some (S.set n (.dct (kputE kvs k y))) else none
    | _, _ => none
  | _, _ => none
theorem putKE_H {x i y : EV} {S' : Store} {o v u : V} {Q : Hp → Prop} (w : Wd K P S H m T) (ro : Rp K P S H m o x) (ri : Rp K P S H m v i) (ry : Rp K P S H m u y) (e : putKE x i y S = some S')
    (h : ∀ H', To P S H m S' H' m → Wd K P S' H' m T → Q H') : rSetD o v u H Q := by
  unfold putKE at e
  split at e
  · rename_i n d
    split at e
    · rename_i k kvs ek eS
      split at e
      · rename_i hl
        cases e
        obtain ⟨rfl, hn⟩ := ro
        obtain rfl := keyOf_kV ek ri
        obtain ⟨vs, h1, h2⟩ := w.ok n _ eS
        have ng : (SO.dct kvs) ≠ .gone := fun z => by cases z
        refine ⟨m n, _, rfl, DPut.k h1 (by rw [Paired.length h2]; exact hl), ?_⟩
        have t : To P S H m (S.set n (.dct (kputE kvs k y))) (upd H (m n) (.dK (putK vs k u))) m := To.writeX eS ng
        refine h _ t (w.writeX eS ng (fun ps z => by rw [h1] at z; cases z) ⟨_, upd_same, ?_⟩)
        exact Paired.mapP (rpk_put ry h2) fun p q z => ⟨z.1, t.rp z.2⟩
      · cases e
    · cases e
  · cases e
def setKF (fo fi f : EF) : SF := fun ρ S => (f ρ S).toS ρ fun y S1 => (fo ρ S1).toS ρ fun x S2 => (fi ρ S2).toS ρ fun i S3 => match putKE x i y S3 with
  | some S4 => .nx ρ S4
  | none => .bad
theorem ds_setK (F : Fam X K N) {o i : Expr} {fo fi : EF} {p : Pos} (ho : DE X K T W o fo) (hi : DE X K T W i fi) (he : DE X K T W e fe)
    (ha : ∀ j v, assign (.Subscript o i p) (X j).env v = (do
      let ov ← holding [v] (eval o (X j).env)
      let iv ← holding [v, ov] (eval i (X j).env)
      standAt p
      holding [v, ov, iv] (setItem ov iv v)
      release [v, ov, iv] []) := by intro _ _; rfl)
    (hs : ∀ j, swapsWithSole [.Subscript o i p] e pos.line (X j).env = pure false := by intro _; rfl) (hw : ∀ j, swappedStores [.Subscript o i p] e (X j).env = pure none := by intro _; rfl)
    (h1 : ∀ j, (assignEach [.Subscript o i p] (X j).env).map (·.2) = [assign (.Subscript o i p) (X j).env] := by intro _; rfl) : DS X K T W (.Assign [.Subscript o i p] e pos) (setKF fo fi fe) := by
  obtain ⟨t, pt, ht⟩ := he.ex
  obtain ⟨to, po, hO⟩ := ho.ex
  obtain ⟨ti, pi, hI⟩ := hi.ex
  refine ⟨tAsg t (gSub to ti rSetD), fun j => ps_asg (pt j) (pg_sub (po j) (pi j) (set_dict (Nat.lt_of_le_of_lt (Nat.add_le_add_left (by decide) _) (F.hu j))) (ha j)) (hs j) (hw j) (h1 j), fun P ρ S H m σ D w er h => ?_⟩
  refine ht P ρ S H m σ _ w er (PostS.step er h fun S1 H1 m1 u y t1 w1 r1 h1 => ?_)
  refine hO P ρ S1 H1 m1 σ _ w1 (er.to t1) (PostS.step (er.to t1) h1 fun S2 H2 m2 o x t2 w2 r2 h2 => ?_)
  refine hI P ρ S2 H2 m2 σ _ w2 ((er.to t1).to t2) (PostS.step ((er.to t1).to t2) h2 fun S3 H3 m3 v i t3 w3 r3 h3 => ?_)
  cases q : putKE x i y S3 with
  | none => simp only [q] at h3; exact h3.elim
  | some S4 =>
    simp only [q] at h3
    exact putKE_H w3 (t3.rp r2) r3 (t3.rp (t2.rp r1)) q fun H' t4 w4 => PostS.nx w4 ((((er.to t1).to t2).to t3).to t4) (PostS.after t4 h3)
/-! ### given up -/
def datasK : List (Key × EV) → Option (List (Key × PyData))
  | [] => some []
  | (k, .d d) :: r => (datasK r).map ((k, d) :: ·)
  | _ :: _ => none
def evK (kvs : List (Key × PyData)) : List (Key × EV) := kvs.map fun p => (p.1, .d p.2)
theorem datasK_evK : ∀ kvs : List (Key × PyData), datasK (evK kvs) = some kvs
  | [] => rfl
  | p :: r => by show (datasK (evK r)).map _ = _; rw [datasK_evK r]; rfl
theorem datasK_eq : ∀ {kvs : List (Key × EV)} {ds : List (Key × PyData)}, datasK kvs = some ds → kvs = evK ds
  | [], ds, h => by cases h; rfl
  | (k, .d d) :: r, ds, h => by
    have h' : (datasK r).map ((k, d) :: ·) = some ds := h
    cases q : datasK r with
    | none => rw [q] at h'; cases h'
    | some es => rw [q] at h'; cases h'; rw [datasK_eq q]; rfl
  | (k, .own _) :: r, ds, h => by cases h
  | (k, .scr _) :: r, ds, h => by cases h
def frzVK : EV → Store → Res EV := fun x S => match x with
  | .own n => match S[n]? with
    | some (.dct kvs) => match datasK kvs with
      | some ds => .ok (.d (.dict (kvD ds))) (S.set n .gone)
      | none => .bad
    | _ => .bad
  | _ => .bad
theorem Wd.frozenK (w : Wd K P S H m T) {n : Nat} {ds : List (Key × PyData)} (h : S[n]? = some (.dct (evK ds))) : Dq H (LP P (S.set n .gone) m) (.ref (m n)) (.dict (kvD ds)) := by
  obtain ⟨vs, e, r⟩ := w.ok n _ h
  have ng : (SO.dct (evK ds)) ≠ .gone := fun z => by cases z
  have t := To.freeze (P := P) (H := H) (m := m) h ng
  refine .dct e (fun z => ?_) ?_
  · rcases z with z | ⟨k, o, h1, h2, h3⟩
    · exact (w.prv _ z).2 ⟨n, _, h, ng, rfl⟩
    · by_cases q : n = k
      · subst q
        rw [List.getElem?_set_self (List.getElem?_eq_some_iff.mp h).1] at h1
        cases h1
        exact h2 rfl
      · rw [List.getElem?_set_ne q] at h1
        exact q (w.inj k n o _ h1 h h2 ng h3).symm
  · have : ∀ {vs : List (Key × V)} {ds : List (Key × PyData)}, Paired (fun (p : Key × V) (q : Key × EV) => p.1 = q.1 ∧ Rp K P S H m p.2 q.2) vs (evK ds) → DqK H (LP P (S.set n .gone) m) vs ds := by
      intro vs ds
      induction ds generalizing vs with
      | nil => intro h; cases h; exact .nil
      | cons p r ih =>
        intro h
        cases h with
        | cons a t' => exact .cons ⟨a.1, t.dq a.2⟩ (ih t')
    exact (this r).kv
def frzKE (f : EF) : EF := fun ρ S => (f ρ S).bind frzVK
theorem de_frzK (he : DE X K T W e fe) : DE X K T W e (frzKE fe) := by
  obtain ⟨t, pt, ht⟩ := he.ex
  refine ⟨t, pt, fun P ρ S H m σ Q w er h => ?_⟩
  refine ht P ρ S H m σ _ w er (Post.step h fun S1 H1 m1 v x t1 w1 r1 h1 => ?_)
  unfold frzVK at h1
  split at h1
  · rename_i n
    split at h1
    · rename_i kvs qs
      split at h1
      · rename_i ds qd
        obtain rfl := datasK_eq qd
        have ng : (SO.dct (evK ds)) ≠ .gone := fun z => by cases z
        obtain ⟨rfl, _⟩ := r1
        exact h1 H1 m1 _ (To.freeze qs ng) (w1.freeze qs ng) (w1.frozenK qs)
      · exact h1.elim
    · exact h1.elim
  · exact h1.elim
/-! ### dict(list of pairs) -/
def pairsD : List PyData → Option (List (Key × PyData))
  | [] => some []
  | .tuple [k, d] :: r => match keyOf k, pairsD r with
    | some k', some r' => some ((k', d) :: r')
    | _, _ => none
  | _ :: _ => none
def kmerge (ps : List (Key × PyData)) : List (Key × PyData) := ps.foldl (fun acc p => kput acc p.1 p.2) []
def gDictP : List EV → Store → Res EV := fun xs S => match xs with
  | [.d (.list ds)] => match pairsD ds with
    | some ps => .ok (.d (.dict (kvD (kmerge ps)))) S
    | none => .bad
  | _ => .bad
theorem pairs_H {L : Addr → Prop} : ∀ {vs : List V} {ds : List PyData} {ps : List (Key × PyData)}, DqAll H L vs ds → pairsD ds = some ps → ∃ (as : List Addr) (kvs : List (Key × V)), vs = as.map V.ref ∧
    Paired (fun p (kv : Key × V) => SqT K H p [kV kv.1, kv.2]) as kvs ∧ DqK H L kvs ps
  | _, [], ps, h, e => by
    cases h; cases e
    exact ⟨[], [], rfl, .nil, .nil⟩
  | _, d :: r, ps, h, e => by
    cases h with
    | cons q t =>
      unfold pairsD at e
      split at e
      · rename_i e0; cases e0
      · rename_i k d' r' e0
        cases e0
        split at e
        · rename_i k' r'' ek er
          cases e
          obtain ⟨as, kvs, rfl, h1, h2⟩ := pairs_H t er
          cases q with
          | tup g dn nn q2 =>
            rename_i a o xs
            cases q2 with
            | cons q3 q4 =>
              cases q4 with
              | cons q5 q6 =>
                cases q6
                rename_i y
                have := keyOf_kV (P := L) (S := []) (m := fun _ => 0) ek (q3.keep Kpt.refl (fun a z => by
                  rcases z with z | ⟨_, _, z, _⟩
                  · exact .inl z
                  · cases z))
                subst this
                exact ⟨a :: as, (k', y) :: kvs, rfl, .cons (sqT_frz g) h1, .cons ⟨rfl, q5⟩ h2⟩
        · cases e
      · cases e
theorem kmerge_H {L : Addr → Prop} {vs : List (Key × V)} {ps : List (Key × PyData)} (h : DqK H L vs ps) : ∀ {av : List (Key × V)} {ap : List (Key × PyData)}, DqK H L av ap →
    DqK H L (vs.foldl (fun acc kv => putK acc kv.1 kv.2) av) (ps.foldl (fun acc p => kput acc p.1 p.2) ap) := by
  unfold DqK at h
  induction h with
  | nil => exact fun q => q
  | @cons p q ps qs h t ih =>
    intro av ap z
    obtain ⟨k1, v⟩ := p
    obtain ⟨k2, d⟩ := q
    obtain ⟨e, r⟩ := h
    simp only at e r
    subst e
    exact ih (DqK.put r z)
theorem cd_dictP (F : Fam X K N) : CallD X K T (.type "dict") gDictP := by
  refine ⟨_, fun i => by have := call_dictP (X := X i) (F.calm i); rw [F.K i] at this; exact this, fun P S H m σ W xs vs Q w r h => ?_⟩
  unfold gDictP at h
  split at h
  · rename_i ds
    split at h
    · rename_i ps e
      obtain ⟨v, rfl, rv⟩ := rpl_one r
      have rv' : Dq H (LP P S m) v (.list ds) := rv
      cases rv' with
      | lst g nn q =>
        obtain ⟨as, kvs, rfl, h1, h2⟩ := pairs_H (K := K) q e
        refine ⟨_, as, kvs, rfl, .of g, h1, fun p hp => ?_⟩
        refine h _ m _ (To.new w hp) (w.new hp) (Dq.dct upd_same (w.fresh hp) ?_)
        exact (DqK.keep' (fun z => (To.new w hp).dq z) (kmerge_H h2 .nil)).kv
    · exact h.elim
  · exact h.elim
end
end Z
set_option maxRecDepth 100000
set_option maxHeartbeats 4000000
/-! Z37: range downwards; how the new parts are worked out. -/
namespace Z
open PySem PySem.Spec PyProof.Rows L2
section
variable {ι : Type} {X : ι → Cx} {K : PySem.W.Frag} {T : List Addr} {W : WX} {N : List Str}
variable {a b c e f tg : Expr} {fa fb fc fe ff : EF} {pos : Pos} {es tgs : List Expr} {fs : AF} {g : GF} {gs : GsF} {n : Nat}
variable {P : Addr → Prop} {S : Store} {H : Hp} {m : Nat → Addr} {σ : L2.St} {st : Stmt} {sts : List Stmt} {sf sg sh : SF}
def dnL (i : Int) (n : Nat) : List Itm := (List.range n).map fun k : Nat => Itm.one (.d (.int (i + (k : Int) * -1)))
theorem walk_dn {i : Int} {n : Nat} : WalkI K T P S H m (Itc i (-1) n) (dnL i n) := by
  intro P2 S2 H2 m2 j hp t w
  refine ⟨fun hi => show n ≤ j by simpa [dnL] using Nat.le_of_eq hi, fun it hit => ?_⟩
  unfold dnL at hit
  rw [List.getElem?_map] at hit
  have hi : j < n := by
    by_cases z : j < n
    · exact z
    · rw [List.getElem?_eq_none (by simpa using z)] at hit; cases hit
  rw [List.getElem?_eq_getElem (by simpa using hi)] at hit
  simp only [List.getElem_range, Option.map_some, Option.some.injEq] at hit
  subst hit
  refine ⟨hi, fun x H3 ⟨e3, y3⟩ => ?_⟩
  subst e3
  subst y3
  exact ⟨To.refl, w, Dq.int _⟩
noncomputable def rng3F (fs : AF) : IF := fun ρ S => (fs ρ S).bind fun xs S1 => match xs with
  | [.d (.int i), .d (.int j), .d (.int c)] => if inW i = true ∧ inW j = true ∧ c = -1 then .ok (dnL i (i - j).toNat) S1 else .bad
  | _ => .bad
theorem di_range3 {p : Pos} (hm : ∀ i, (X i).mg "range" = none) (ha : DA X K T W [a, b, c] fs) (hg : ∀ i, Gl (X i) "range" := by intro _; rfl)
    (h0 : ∀ i, starEach [a, b, c] (X i).env = (false, eval a (X i).env) :: starEach [b, c] (X i).env := by intro _; rfl) (h1 : ∀ i, (backTo pos (starEach [b, c] (X i).env)).any (·.1) = false := by intro _; rfl) :
    DI X K T W tg (.Call (.Name "range" p) [a, b, c] [] pos) (rng3F fs) := by
  obtain ⟨t, pt, ht⟩ := ha.ex
  refine ⟨iRng3 t, fun i => pi_range3 (hg i) (hm i) (pt i) (h0 i) (h1 i), fun P ρ S H m σ R w er h => ?_⟩
  refine ht P ρ S H m σ _ w er (Post.step h fun S1 H1 m1 v x t1 w1 r1 h1 => ?_)
  split at h1
  · split at h1
    · rename_i i j c q
      obtain ⟨q1, q2, rfl⟩ := q
      obtain ⟨v, u, t, rfl, rv, ru, rt⟩ := rpl_three r1
      obtain rfl := rp_int rv
      obtain rfl := rp_int ru
      obtain rfl := rp_int rt
      exact ⟨i, j, -1, _, rfl, RgC.neg (inW_iff.mp q1).1 (inW_iff.mp q1).2 (inW_iff.mp q2).1 (inW_iff.mp q2).2, Post.done (Rel := RelW K T P) w1 h1 walk_dn⟩
    · exact h1.elim
  · exact h1.elim
end
/-! ### worked out -/
section
variable {α β : Type} {ρ ρ1 : Rho} {S S1 : Store} {f f1 f2 fo fi : EF} {c c1 c2 : BF} {fs : AF} {sf sg sh : SF} {g : GF} {gs : GsF} {i j : Int} {n m : Nat} {x y : EV} {xs ys : List EV} {ds es : List PyData} {w0 : World}
@[simp] theorem e_rng3 : rng3F fs ρ S = (fs ρ S).bind fun xs S1 => match xs with
  | [.d (.int i), .d (.int j), .d (.int c)] => if inW i = true ∧ inW j = true ∧ c = -1 then .ok (dnL i (i - j).toNat) S1 else .bad
  | _ => .bad := (rfl)
@[simp] theorem e_dnewT : dnewTF w0 ρ S = .ok (.own S.length) (S ++ [.dtp w0 []]) := (rfl)
@[simp] theorem e_dnewK : dnewKF ρ S = .ok (.own S.length) (S ++ [.dct []]) := (rfl)
@[simp] theorem e_setT : setTF w0 fo fi f ρ S = (f ρ S).toS ρ fun y S1 => (fo ρ S1).toS ρ fun x S2 => (fi ρ S2).toS ρ fun i S3 => match putT w0 x i y S3 with
  | some S4 => .nx ρ S4
  | none => .bad := (rfl)
@[simp] theorem e_setK : setKF fo fi f ρ S = (f ρ S).toS ρ fun y S1 => (fo ρ S1).toS ρ fun x S2 => (fi ρ S2).toS ρ fun i S3 => match putKE x i y S3 with
  | some S4 => .nx ρ S4
  | none => .bad := (rfl)
@[simp] theorem e_frzK : frzKE f ρ S = (f ρ S).bind frzVK := (rfl)
theorem frzK_own {kvs : List (Key × PyData)} (e : S[n]? = some (.dct (evK kvs))) : frzVK (.own n) S = .ok (.d (.dict (kvD kvs))) (S.set n .gone) := by simp [frzVK, e, datasK_evK]
theorem putT_own {kvs : List (List Key × EV)} {k : List Key} (e : S[n]? = some (.dtp w0 kvs)) (hl : kvs.length < sizeLine) : putT w0 (.own n) (.d (.tuple (k.map keyD))) y S = some (S.set n (.dtp w0 (tput kvs k y))) := by
  simp [putT, keysOf_keyD, e, hl]
theorem inT_own {kvs : List (List Key × EV)} {k : List Key} {neg : Bool} (e : S[n]? = some (.dtp w0 kvs)) : gInTp w0 neg (.d (.tuple (k.map keyD))) (.own n) S = .ok (.d (.bool (neg ^^ (tlook kvs k).isSome))) S := by
  simp [gInTp, keysOf_keyD, e]
theorem get2_own {kvs : List (List Key × EV)} {k : List Key} {z : EV} (e : S[n]? = some (.dtp w0 kvs)) (ho : fo ρ S = .ok (.own n) S) (hk : f1 ρ S = .ok (.d (.tuple (k.map keyD))) S) (hz : f2 ρ S = .ok z S) :
    get2F w0 fo f1 f2 ρ S = .ok ((tlook kvs k).getD z) S := by
  simp [get2F, ho, hk, hz, keysOf_keyD, e]
theorem putK_own {kvs : List (Key × EV)} {d : PyData} {k : Key} (e : S[n]? = some (.dct kvs)) (hk : keyOf d = some k) (hl : kvs.length < sizeLine) : putKE (.own n) (.d d) y S = some (S.set n (.dct (kputE kvs k y))) := by
  simp [putKE, hk, e, hl]
theorem tlook_map {k k' : List Key} {x : EV} : ∀ {kvs : List (List Key × EV)}, tlook (kvs.map fun p => if p.1 = k then (p.1, x) else p) k' = if k = k' then (tlook kvs k).map fun _ => x else tlook kvs k'
  | [] => by simp [tlook]
  | (k1, x1) :: r => by
    have ih := tlook_map (k := k) (k' := k') (x := x) (kvs := r)
    simp only [List.map_cons]
    by_cases e1 : k1 = k
    · subst e1
      by_cases e2 : k1 = k'
      · subst e2; simp [tlook]
      · simp [tlook, e2, ih]
    · by_cases e2 : k1 = k'
      · subst e2
        have e3 : ¬ k = k1 := fun z => e1 z.symm
        simp [tlook, e1, e3]
      · simp only [e1, if_false, tlook, e2, ih]
theorem tlook_snoc {k k' : List Key} {x : EV} : ∀ {kvs : List (List Key × EV)}, tlook kvs k = none → tlook (kvs ++ [(k, x)]) k' = if k = k' then some x else tlook kvs k'
  | [], _ => by simp [tlook]
  | (k1, x1) :: r, h => by
    have e1 : ¬ k1 = k := fun z => by simp [tlook, z] at h
    have h2 : tlook r k = none := by simpa [tlook, e1] using h
    have ih := tlook_snoc (k' := k') (x := x) h2
    simp only [List.cons_append, tlook, ih]
    by_cases e2 : k1 = k'
    · subst e2
      have e3 : ¬ k = k1 := fun z => e1 z.symm
      simp [e3]
    · simp [e2]
theorem tlook_put (kvs : List (List Key × EV)) (k k' : List Key) (x : EV) : tlook (tput kvs k x) k' = if k = k' then some x else tlook kvs k' := by
  unfold tput
  split
  · rename_i h
    rw [tlook_map]
    obtain ⟨y, hy⟩ := Option.isSome_iff_exists.mp h
    rw [hy]; rfl
  · rename_i h
    exact tlook_snoc (by simpa using h)
theorem tput_len (kvs : List (List Key × EV)) (k : List Key) (x : EV) : (tput kvs k x).length ≤ kvs.length + 1 := by
  unfold tput
  split <;> simp
@[simp] theorem dictP_run {ps : List (Key × PyData)} : gDictP [.d (.list (ps.map fun p => .tuple [keyD p.1, p.2]))] S = .ok (.d (.dict (kvD (kmerge ps)))) S := by
  have : ∀ ps : List (Key × PyData), pairsD (ps.map fun p => .tuple [keyD p.1, p.2]) = some ps := by
    intro ps
    induction ps with
    | nil => rfl
    | cons p r ih => simp [pairsD, keyOf_keyD, ih]
  simp [gDictP, this]
theorem kvs_back2 : ∀ kv : List (Key × PyData), kvs_ (kvD kv) = some (kv.map fun p => (p.1, EV.d p.2)) := kvs_back
@[simp] theorem len_dict {kv : List (Key × PyData)} : gLen [.d (.dict (kvD kv))] S = .ok (.d (.int kv.length)) S := by
  simp [gLen, itemsLS, itemsL, itemsS, itemsT, dictOf, kvs_back]
theorem dict_ix {kv : List (Key × PyData)} {d : PyData} {k : Key} {z : EV} (hk : keyOf d = some k) (h : klook (kv.map fun p => (p.1, EV.d p.2)) k = some z) : gIx (.d (.dict (kvD kv))) (.d d) S = .ok z S := by
  cases d <;> cases hk <;> simp [gIx, gOr, gIxL, gIxT, gIxS, gIxD, itemsLS, itemsL, itemsS, itemsT, dictOf, kvs_back, keyOf, h]
theorem sorted_own {xs : List Int} (e : S[n]? = some (.lst (evs (II xs)))) (h : xs.length ≤ 10000) : gSorted [.own n] S = .ok (.d (.list (II (sortI xs)))) S := by
  have e2 : intsOf (evs (II xs)) = some xs := intsOf_ints xs
  simp [gSorted, srtOut, iLS_own e, e2, small h]
end
end Z
set_option maxRecDepth 100000
set_option maxHeartbeats 4000000
/-! Z38: rows of numbers, places in lands: cut out of k27's texts. -/
namespace Z
open PySem PySem.Spec PyProof.Rows L2
def RW (n : Nat) (g : Nat → Int) : List PyData := (List.range n).map fun b => .int (g b)
@[simp] theorem RW_len {n : Nat} {g : Nat → Int} : (RW n g).length = n := by simp [RW]
theorem RW_at {n b : Nat} {g : Nat → Int} (hb : b < n) : atI (RW n g) (b : Int) = some (.int (g b)) := atI_range _ hb
theorem RW_atE {n b : Nat} {g : Nat → Int} (hb : b < n) : atI (evs (RW n g)) (b : Int) = some (.d (.int (g b))) := by rw [atI_evs, RW_at hb]; rfl
theorem RW_set {n b : Nat} {g : Nat → Int} {v : Int} : (RW n g).set b (.int v) = RW n fun i => if i = b then v else g i := by
  unfold RW
  rw [set_range]
  refine range_map_eq fun k _ => ?_
  by_cases e : k = b <;> simp [e]
theorem RW_eq {n : Nat} {g h : Nat → Int} (e : ∀ k, k < n → g k = h k) : RW n g = RW n h := range_map_eq fun k hk => by rw [e k hk]
theorem RW_rep {n : Nat} : List.replicate n (PyData.int 0) = RW n fun _ => 0 := by
  apply List.ext_getElem
  · simp
  · intro i h1 h2; simp [RW]
section
variable {S : Store} {n p N s : Nat} {vs : List Str} {rs : List (Str × Str × Str)} {E : List (Nat × Nat)} {L : List Nat}
theorem rs_at {k : Nat} (hk : k < rs.length) : atI (rs.map RD) (k : Int) = some (RD rs[k]) := by rw [atI_nat]; simp [hk]
theorem getD_at {α : Type} {xs : List α} {k : Nat} {d : α} (hk : k < xs.length) : xs.getD k d = xs[k] := by simp [hk]
theorem getD_lt {d : Nat} {i : Nat} (hi : i < L.length) : L.getD i d = L[i] := by simp [hi]
theorem E_at {k : Nat} (hk : k < E.length) : atI (E.map ED) (k : Int) = some (ED E[k]) := by rw [atI_nat]; simp [hk]
theorem NI_atE {k : Nat} (hk : k < L.length) : atI (evs (NI L)) (k : Int) = some (.d (.int (L.getD k 0 : Nat))) := by rw [atI_evs, NI_at hk, getD_at hk]; rfl
theorem NI_atD {k : Nat} (hk : k < L.length) : atI (NI L) (k : Int) = some (.int (L.getD k 0 : Nat)) := by rw [NI_at hk, getD_at hk]
theorem rs_atE (hk : s < rs.length) : (endsOf vs rs).getD s (0, 0) = (vs.idxOf rs[s].2.1, vs.idxOf rs[s].2.2) := by
  simp [endsOf, hk]
theorem asc_filter {N : Nat} {q : Nat → Bool} : ((List.range N).filter q).Pairwise (· < ·) := List.pairwise_lt_range.filter _
end
/-! ### generator expressions whose parts change the store -/
section
variable {S : Store} {g : GF} {t : BF} {e : EF} {ρ : Rho} {X : XP} {Q : EV → Store → Prop}
theorem collT_I (I : Nat → List EV → Store → Prop) : ∀ (its : List Itm) (k : Nat) (acc : List EV) (S : Store), I k acc S →
    (∀ (q : Nat) (it : Itm), its[q]? = some it → ∀ acc S, I (k + q) acc S → ∃ ρ1, g it ρ = some ρ1 ∧ Wp (t ρ1 S) (fun b S1 => if b = true then Wp (e ρ1 S1) (fun y S2 => I (k + q + 1) (acc ++ [y]) S2) nox else I (k + q + 1) acc S1) nox) →
    ∃ ys S', collT (genT g t e ρ its S) = some (ys, S') ∧ I (k + its.length) (acc ++ ys) S'
  | [], k, acc, S, h, _ => ⟨[], S, rfl, by simpa using h⟩
  | it :: r, k, acc, S, h, st => by
    obtain ⟨ρ1, e1, h1⟩ := st 0 it rfl acc S h
    have ih := fun acc2 S2 (h2 : I (k + 0 + 1) acc2 S2) => collT_I I r (k + 1) acc2 S2 h2 (fun q it hq acc S hI => by
      have := st (q + 1) it (by simpa using hq) acc S (by rw [show k + (q + 1) = k + 1 + q by omega]; exact hI)
      rw [show k + (q + 1) + 1 = k + 1 + q + 1 by omega] at this
      exact this)
    have el : k + (it :: r).length = k + 1 + r.length := by rw [List.length_cons]; omega
    rw [el]
    obtain ⟨b, S1, q1, h2⟩ := h1.ex
    unfold genT
    rw [e1]
    cases b with
    | false =>
      obtain ⟨ys, S', c1, c2⟩ := ih acc S1 (by simpa using h2)
      exact ⟨ys, S', by simp only [q1]; exact c1, c2⟩
    | true =>
      have h3 : Wp (e ρ1 S1) (fun y S2 => I (k + 0 + 1) (acc ++ [y]) S2) nox := by simpa using h2
      obtain ⟨y, S2, q2, h4⟩ := h3.ex
      obtain ⟨ys, S', c1, c2⟩ := ih (acc ++ [y]) S2 h4
      refine ⟨y :: ys, S', ?_, by simpa using c2⟩
      simp only [q1, q2, collT, c1, Option.map_some]
theorem wp_collI {mk : List EV → Store → Res EV} {its : List Itm} (I : Nat → List EV → Store → Prop) (h0 : I 0 [] S)
    (st : ∀ (q : Nat) (it : Itm), its[q]? = some it → ∀ acc S, I q acc S → ∃ ρ1, g it ρ = some ρ1 ∧ Wp (t ρ1 S) (fun b S1 => if b = true then Wp (e ρ1 S1) (fun y S2 => I (q + 1) (acc ++ [y]) S2) nox else I (q + 1) acc S1) nox)
    (hQ : ∀ ys S', I its.length ys S' → Wp (mk ys S') Q X) : Wp (mkColl mk (genT g t e ρ its S)) Q X := by
  obtain ⟨ys, S', c1, c2⟩ := collT_I (g := g) (t := t) (e := e) (ρ := ρ) I its 0 [] S h0 (fun q it hq acc S hI => by
    rw [Nat.zero_add] at hI ⊢
    exact st q it hq acc S hI)
  rw [Nat.zero_add, List.nil_append] at c2
  unfold mkColl
  rw [c1]
  exact hQ ys S' c2
end
end Z
set_option maxRecDepth 100000
set_option maxHeartbeats 4000000
namespace Z
open PySem PySem.Spec PyProof.Rows L2
/-! printed by gen.py: the defs of the text, each as a plain function with its derivation -/
def topS (i : Nat) : Stmt := PySem.Challenge.pw_sendround_k77_sets_under_trees.main.body.getD i (.Pass ⟨0, 0, 0, 0⟩)
abbrev s_pairs_of : Stmt := topS 1
abbrev n_pairs_of : List Str := ["land", "places", "number", "village", "name", "one", "other"]
abbrev p_pairs_of : List Str := ["land"]
theorem sc_pairs_of : FnScope n_pairs_of p_pairs_of (defScope s_pairs_of) := ⟨rfl, rfl, rfl, by decide +kernel, rfl, by decide +kernel, by decide +kernel⟩
abbrev s_reached : Stmt := topS 2
abbrev n_reached : List Str := ["many", "pairs", "starts", "near", "one", "other", "met", "at", "mate", "_"]
abbrev p_reached : List Str := ["many", "pairs", "starts"]
theorem sc_reached : FnScope n_reached p_reached (defScope s_reached) := ⟨rfl, rfl, rfl, by decide +kernel, rfl, by decide +kernel, by decide +kernel⟩
abbrev s_road_numbers : Stmt := topS 4
abbrev n_road_numbers : List Str := ["land", "names", "number", "road"]
abbrev p_road_numbers : List Str := ["land", "names"]
theorem sc_road_numbers : FnScope n_road_numbers p_road_numbers (defScope s_road_numbers) := ⟨rfl, rfl, rfl, by decide +kernel, rfl, by decide +kernel, by decide +kernel⟩
abbrev s_cut_roads : Stmt := topS 6
abbrev n_cut_roads : List Str := ["many", "pairs", "kept", "road", "rest", "side", "at", "one", "other"]
abbrev p_cut_roads : List Str := ["many", "pairs", "kept", "road"]
theorem sc_cut_roads : FnScope n_cut_roads p_cut_roads (defScope s_cut_roads) := ⟨rfl, rfl, rfl, by decide +kernel, rfl, by decide +kernel, by decide +kernel⟩
abbrev s_inner_of : Stmt := topS 7
abbrev n_inner_of : List Str := ["many", "pairs", "kept", "road"]
abbrev p_inner_of : List Str := ["many", "pairs", "kept"]
theorem sc_inner_of : FnScope n_inner_of p_inner_of (defScope s_inner_of) := ⟨rfl, rfl, rfl, by decide +kernel, rfl, by decide +kernel, by decide +kernel⟩
abbrev s_inner_level : Stmt := topS 8
abbrev n_inner_level : List Str := ["land", "tree"]
abbrev p_inner_level : List Str := ["land", "tree"]
theorem sc_inner_level : FnScope n_inner_level p_inner_level (defScope s_inner_level) := ⟨rfl, rfl, rfl, by decide +kernel, rfl, by decide +kernel, by decide +kernel⟩
abbrev s_tree_over : Stmt := topS 9
abbrev n_tree_over : List Str := ["land", "names", "many", "pairs", "kept", "road", "one", "other", "at"]
abbrev p_tree_over : List Str := ["land", "names"]
theorem sc_tree_over : FnScope n_tree_over p_tree_over (defScope s_tree_over) := ⟨rfl, rfl, rfl, by decide +kernel, rfl, by decide +kernel, by decide +kernel⟩
abbrev s__law_bag : Stmt := topS 11
abbrev n__law_bag : List Str := ["script", "cells", "great", "cell"]
abbrev p__law_bag : List Str := ["script"]
theorem sc__law_bag : FnScope n__law_bag p__law_bag (defScope s__law_bag) := ⟨rfl, rfl, rfl, by decide +kernel, rfl, by decide +kernel, by decide +kernel⟩
abbrev s__law_draw : Stmt := topS 12
abbrev n__law_draw : List Str := ["bag", "many", "digit", "cell", "mixed"]
abbrev p__law_draw : List Str := ["bag", "many"]
theorem sc__law_draw : FnScope n__law_draw p__law_draw (defScope s__law_draw) := ⟨rfl, rfl, rfl, by decide +kernel, rfl, by decide +kernel, by decide +kernel⟩
abbrev s__law_pick : Stmt := topS 13
abbrev n__law_pick : List Str := ["bag", "some"]
abbrev p__law_pick : List Str := ["bag", "some"]
theorem sc__law_pick : FnScope n__law_pick p__law_pick (defScope s__law_pick) := ⟨rfl, rfl, rfl, by decide +kernel, rfl, by decide +kernel, by decide +kernel⟩
abbrev s__law_some : Stmt := topS 14
abbrev n__law_some : List Str := ["bag", "things", "many", "left", "made", "k"]
abbrev p__law_some : List Str := ["bag", "things", "many"]
theorem sc__law_some : FnScope n__law_some p__law_some (defScope s__law_some) := ⟨rfl, rfl, rfl, by decide +kernel, rfl, by decide +kernel, by decide +kernel⟩
abbrev s__law_same : Stmt := topS 15
abbrev n__law_same : List Str := ["found", "due", "k"]
abbrev p__law_same : List Str := ["found", "due"]
theorem sc__law_same : FnScope n__law_same p__law_same (defScope s__law_same) := ⟨rfl, rfl, rfl, by decide +kernel, rfl, by decide +kernel, by decide +kernel⟩
abbrev s__law_names : Stmt := topS 16
abbrev n__law_names : List Str := ["bag", "many", "size", "signs", "made", "k", "name", "j"]
abbrev p__law_names : List Str := ["bag", "many", "size"]
theorem sc__law_names : FnScope n__law_names p__law_names (defScope s__law_names) := ⟨rfl, rfl, rfl, by decide +kernel, rfl, by decide +kernel, by decide +kernel⟩
abbrev s__law_land : Stmt := topS 17
abbrev n__law_land : List Str := ["bag", "most", "more", "many", "villages", "pairs", "k", "names", "roads", "pair"]
abbrev p__law_land : List Str := ["bag", "most", "more"]
theorem sc__law_land : FnScope n__law_land p__law_land (defScope s__law_land) := ⟨rfl, rfl, rfl, by decide +kernel, rfl, by decide +kernel, by decide +kernel⟩
abbrev s__law_ends : Stmt := topS 18
abbrev n__law_ends : List Str := ["land", "road"]
abbrev p__law_ends : List Str := ["land"]
theorem sc__law_ends : FnScope n__law_ends p__law_ends (defScope s__law_ends) := ⟨rfl, rfl, rfl, by decide +kernel, rfl, by decide +kernel, by decide +kernel⟩
abbrev s__law_labels : Stmt := topS 19
abbrev n__law_labels : List Str := ["many", "pairs", "label", "one", "other", "gone", "stays", "k"]
abbrev p__law_labels : List Str := ["many", "pairs"]
theorem sc__law_labels : FnScope n__law_labels p__law_labels (defScope s__law_labels) := ⟨rfl, rfl, rfl, by decide +kernel, rfl, by decide +kernel, by decide +kernel⟩
abbrev s__law_chosen : Stmt := topS 20
abbrev n__law_chosen : List Str := ["things", "many", "rows", "thing", "one"]
abbrev p__law_chosen : List Str := ["things", "many"]
theorem sc__law_chosen : FnScope n__law_chosen p__law_chosen (defScope s__law_chosen) := ⟨rfl, rfl, rfl, by decide +kernel, rfl, by decide +kernel, by decide +kernel⟩
abbrev s__law_all_trees : Stmt := topS 21
abbrev n__law_all_trees : List Str := ["land", "ends", "many", "found", "lot", "k"]
abbrev p__law_all_trees : List Str := ["land"]
theorem sc__law_all_trees : FnScope n__law_all_trees p__law_all_trees (defScope s__law_all_trees) := ⟨rfl, rfl, rfl, by decide +kernel, rfl, by decide +kernel, by decide +kernel⟩
abbrev s__law_sides : Stmt := topS 22
abbrev n__law_sides : List Str := ["land", "tree", "ends", "found", "k", "j"]
abbrev p__law_sides : List Str := ["land", "tree"]
theorem sc__law_sides : FnScope n__law_sides p__law_sides (defScope s__law_sides) := ⟨rfl, rfl, rfl, by decide +kernel, rfl, by decide +kernel, by decide +kernel⟩
abbrev s__law_between : Stmt := topS 23
abbrev n__law_between : List Str := ["land", "tree", "ends", "found", "parts", "k", "j"]
abbrev p__law_between : List Str := ["land", "tree"]
theorem sc__law_between : FnScope n__law_between p__law_between (defScope s__law_between) := ⟨rfl, rfl, rfl, by decide +kernel, rfl, by decide +kernel, by decide +kernel⟩
abbrev s__law_named : Stmt := topS 24
abbrev n__law_named : List Str := ["land", "numbers", "k"]
abbrev p__law_named : List Str := ["land", "numbers"]
theorem sc__law_named : FnScope n__law_named p__law_named (defScope s__law_named) := ⟨rfl, rfl, rfl, by decide +kernel, rfl, by decide +kernel, by decide +kernel⟩
abbrev s__law_free_sets : Stmt := topS 25
abbrev n__law_free_sets : List Str := ["land", "ends", "many", "lots", "k", "found", "lot", "labels", "one"]
abbrev p__law_free_sets : List Str := ["land"]
theorem sc__law_free_sets : FnScope n__law_free_sets p__law_free_sets (defScope s__law_free_sets) := ⟨rfl, rfl, rfl, by decide +kernel, rfl, by decide +kernel, by decide +kernel⟩
abbrev s__law_tree_over : Stmt := topS 26
abbrev n__law_tree_over : List Str := ["land", "lot", "ends", "made", "k", "labels", "j"]
abbrev p__law_tree_over : List Str := ["land", "lot"]
theorem sc__law_tree_over : FnScope n__law_tree_over p__law_tree_over (defScope s__law_tree_over) := ⟨rfl, rfl, rfl, by decide +kernel, rfl, by decide +kernel, by decide +kernel⟩
abbrev s__law_last_ones : Stmt := topS 27
abbrev n__law_last_ones : List Str := ["land", "tree", "over", "k"]
abbrev p__law_last_ones : List Str := ["land", "tree"]
theorem sc__law_last_ones : FnScope n__law_last_ones p__law_last_ones (defScope s__law_last_ones) := ⟨rfl, rfl, rfl, by decide +kernel, rfl, by decide +kernel, by decide +kernel⟩
abbrev s__law_two_to : Stmt := topS 28
abbrev n__law_two_to : List Str := ["many", "made", "k"]
abbrev p__law_two_to : List Str := ["many"]
theorem sc__law_two_to : FnScope n__law_two_to p__law_two_to (defScope s__law_two_to) := ⟨rfl, rfl, rfl, by decide +kernel, rfl, by decide +kernel, by decide +kernel⟩
abbrev s_law : Stmt := topS 29
abbrev n_law : List Str := ["script", "bag", "turn", "land", "numbers", "lot", "tree", "names", "many", "k"]
abbrev p_law : List Str := ["script"]
theorem sc_law : FnScope n_law p_law (defScope s_law) := ⟨rfl, rfl, rfl, by decide +kernel, rfl, by decide +kernel, by decide +kernel⟩
noncomputable def f_pairs_of  : SF :=
  (seqF (setF 1 (dcF (enF (consF (ixF (varF 0) (kF (.int 0))) nilF)) (tupG 2 (consG (nameG 2) (consG (nameG 3) nilG))) yesF (varF 3) (varF 2) [2, 3]))
    (retF (lcF mkLst (seqIF (ixF (varF 0) (kF (.int 1)))) (tupG 3 (consG (nameG 4) (consG (nameG 5) (consG (nameG 6) nilG)))) yesF (tupF (consF (ixF (varF 1) (varF 5)) (consF (ixF (varF 1) (varF 6)) nilF))) [4, 5, 6])))
noncomputable def f_reached  : SF :=
  (seqF (setF 3 (lcF mkOwn (rng1F (consF (varF 0) nilF)) (nameG 9) yesF (ownF nilF) [9]))
    (seqF (forSF (seqIF (varF 1)) (tupG 2 (consG (nameG 4) (consG (nameG 5) nilG))) (seqF (exprF (mthF "list" gAppend (ixF (varF 3) (varF 4)) (consF (varF 5) nilF)))
    (exprF (mthF "list" gAppend (ixF (varF 3) (varF 5)) (consF (varF 4) nilF)))))
    (seqF (setF 6 (callF gListO (consF (varF 2) nilF)))
    (seqF (setF 7 (kF (.int 0)))
    (seqF (whileF (testF (opF (gC fun i j => decide (i < j)) (varF 7) (callF gLen (consF (varF 6) nilF)))) (seqF (forSG (seqIG (ixF (varF 3) (ixF (varF 6) (varF 7)))) (nameG 8) (ifSF (testF (opF (gIn true) (varF 8) (varF 6))) (exprF (mthF "list" gAppend (varF 6) (consF (varF 8) nilF))) nxF))
    (augF 7 (gI CTrue fun i j => i + j) (kF (.int 1)))))
    (retF (frzE (varF 6))))))))
noncomputable def f_road_numbers  : SF :=
  (retF (lcF mkOwn (enF (consF (ixF (varF 0) (kF (.int 1))) nilF)) (tupG 2 (consG (nameG 2) (consG (nameG 3) nilG))) (testF (opF (gIn false) (ixF (varF 3) (kF (.int 0))) (varF 1))) (varF 2) [2, 3]))
noncomputable def f_cut_roads (g_reached : GFn) : SF :=
  (seqF (setF 4 (lcF mkLst (seqIF (varF 2)) (nameG 6) (testF (opF (gEq true) (varF 6) (varF 3))) (ixF (varF 1) (varF 6)) [6]))
    (seqF (setF 5 (callG 3 g_reached (consF (varF 0) (consF (varF 4) (consF (lstF (consF (ixF (ixF (varF 1) (varF 3)) (kF (.int 0))) nilF)) nilF)))))
    (retF (lcF mkLst (enF (consF (varF 1) nilF)) (tupG 2 (consG (nameG 6) (consG (tupG 2 (consG (nameG 7) (consG (nameG 8) nilG))) nilG))) (testF (opF (gEq true) (opF (gIn false) (varF 7) (varF 5)) (opF (gIn false) (varF 8) (varF 5)))) (varF 6) [6, 7, 8]))))
noncomputable def f_inner_of (g_cut_roads : GFn) : SF :=
  (retF (collF mkSum (seqIF (varF 2)) (nameG 3) (testF (opF (gEq false) (callF (gMM maxI) (consF (callG 4 g_cut_roads (consF (varF 0) (consF (varF 1) (consF (varF 2) (consF (varF 3) nilF))))) nilF)) (varF 3))) (kF (.int 1)) [3]))
noncomputable def f_inner_level (g_inner_of : GFn) (g_pairs_of : GFn) (g_road_numbers : GFn) : SF :=
  (retF (callG 3 g_inner_of (consF (callF gLen (consF (ixF (varF 0) (kF (.int 0))) nilF)) (consF (callG 1 g_pairs_of (consF (varF 0) nilF)) (consF (frzE (callG 2 g_road_numbers (consF (varF 0) (consF (varF 1) nilF)))) nilF)))))
noncomputable def f_tree_over (g_pairs_of : GFn) (g_reached : GFn) (g_road_numbers : GFn) : SF :=
  (seqF (asgF (tupG 2 (consG (nameG 2) (consG (nameG 3) nilG))) (tupF (consF (callF gLen (consF (ixF (varF 0) (kF (.int 0))) nilF)) (consF (callG 1 g_pairs_of (consF (varF 0) nilF)) nilF))))
    (seqF (setF 4 (callG 2 g_road_numbers (consF (varF 0) (consF (varF 1) nilF))))
    (seqF (forSF (rng3F (consF (opF (gI CTrue fun i j => i - j) (callF gLen (consF (varF 3) nilF)) (kF (.int 1))) (consF (negF (kF (.int 1))) (consF (negF (kF (.int 1))) nilF)))) (nameG 5) (seqF (asgF (tupG 2 (consG (nameG 6) (consG (nameG 7) nilG))) (ixF (varF 3) (varF 5)))
    (ifSF (andB (testF (opF (gIn true) (varF 5) (varF 4))) (testF (opF (gIn true) (varF 7) (callG 3 g_reached (consF (varF 2) (consF (lcG mkLst (seqIG (varF 4)) (nameG 8) yesF (ixF (varF 3) (varF 8)) [8]) (consF (lstF (consF (varF 6) nilF)) nilF))))))) (exprF (mthF "list" gAppend (varF 4) (consF (varF 5) nilF))) nxF)))
    (retF (collF mkTup (seqIF (callF gSorted (consF (varF 4) nilF))) (nameG 5) yesF (ixF (ixF (ixF (varF 0) (kF (.int 1))) (varF 5)) (kF (.int 0))) [5])))))
noncomputable def f__law_bag  : SF :=
  (seqF (setF 1 (opF gAdd (lcF mkLst (seqIF (varF 0)) (nameG 3) yesF (callF gAbs (consF (callF gInt (consF (varF 3) nilF)) nilF)) [3]) (lstF (consF (kF (.int 7)) nilF))))
    (seqF (setF 2 (ownF nilF))
    (seqF (ifSF (testF (opF (gEq false) (opF (gI (fun _ j => j ≠ 0) fun i j => i.fmod j) (callF gInt (consF (ixF (varF 1) (kF (.int 0))) nilF)) (kF (.int 2))) (kF (.int 0)))) (seqF (setF 2 (lcF mkOwn (seqIF (varF 1)) (nameG 3) (testF (opF (gC fun i j => decide (j ≤ i)) (varF 3) (opF (gI CPow fun i j => i ^ j.toNat) (kF (.int 10)) (kF (.int 18))))) (opF (gI CDivN fun i j => i.fdiv j) (varF 3) (kF (.int 2))) [3]))
    (exprF (mthF "list" gRevM (varF 2) nilF))) nxF)
    (retF (ownF (consF (kF (.int 0)) (consF (kF (.int 0)) (consF (varF 2) (consF (lcF mkLst (seqIF (varF 1)) (nameG 3) yesF (opF (gI (fun _ j => j ≠ 0) fun i j => i.fmod j) (callF gInt (consF (varF 3) nilF)) (kF (.int 2147483647))) [3]) nilF)))))))))
noncomputable def f__law_draw  : SF :=
  (seqF (setIxF (varF 0) (kF (.int 1)) (opF gAdd (ixF (varF 0) (kF (.int 1))) (kF (.int 1))))
    (seqF (ifSF (andB (testF (opF (gEq false) (ixF (varF 0) (kF (.int 0))) (kF (.int 0)))) (testF (opF (gC fun i j => decide (j < i)) (callF gLen (consF (ixF (varF 0) (kF (.int 2))) nilF)) (kF (.int 0))))) (setIxF (varF 0) (kF (.int 0)) (mthF "list" gPop (ixF (varF 0) (kF (.int 2))) nilF)) nxF)
    (seqF (ifSF (testF (opF (gC fun i j => decide (j < i)) (ixF (varF 0) (kF (.int 0))) (kF (.int 0)))) (seqF (setF 2 (opF (gI (fun _ j => j ≠ 0) fun i j => i.fmod j) (callF gInt (consF (ixF (varF 0) (kF (.int 0))) nilF)) (varF 1)))
    (seqF (setIxF (varF 0) (kF (.int 0)) (opF (gI CDivN fun i j => i.fdiv j) (ixF (varF 0) (kF (.int 0))) (varF 1)))
    (retF (varF 2)))) nxF)
    (seqF (setF 3 (ixF (ixF (varF 0) (kF (.int 3))) (opF (gI (fun _ j => j ≠ 0) fun i j => i.fmod j) (callF gInt (consF (ixF (varF 0) (kF (.int 1))) nilF)) (callF gLen (consF (ixF (varF 0) (kF (.int 3))) nilF)))))
    (seqF (setF 4 (opF (gI (fun _ j => j ≠ 0) fun i j => i.fmod j) (callF gInt (consF (opF gAdd (opF gAdd (opF gMulA (varF 3) (kF (.int 48271))) (opF gMulA (ixF (varF 0) (kF (.int 1))) (kF (.int 69621)))) (kF (.int 1))) nilF)) (kF (.int 2147483647))))
    (retF (opF (gI (fun _ j => j ≠ 0) fun i j => i.fmod j) (opF (gI CDivN fun i j => i.fdiv j) (opF (gI (fun _ j => j ≠ 0) fun i j => i.fmod j) (callF gInt (consF (opF gAdd (opF gAdd (opF gMulA (varF 4) (varF 4)) (opF gMulA (varF 4) (kF (.int 16807)))) (opF gMulA (ixF (varF 0) (kF (.int 1))) (kF (.int 40014)))) nilF)) (kF (.int 2147483629))) (kF (.int 32))) (varF 1))))))))
noncomputable def f__law_pick (g__law_draw : GFn) : SF :=
  (retF (ixF (varF 1) (callG 2 g__law_draw (consF (varF 0) (consF (callF gLen (consF (varF 1) nilF)) nilF)))))
noncomputable def f__law_some (g__law_draw : GFn) : SF :=
  (seqF (setF 3 (callF gListO (consF (varF 1) nilF)))
    (seqF (setF 4 (ownF nilF))
    (seqF (forSF (rng1F (consF (varF 2) nilF)) (nameG 5) (exprF (mthF "list" gAppend (varF 4) (consF (mthF "list" gPop (varF 3) (consF (callG 2 g__law_draw (consF (varF 0) (consF (callF gLen (consF (varF 3) nilF)) nilF))) nilF)) nilF))))
    (retF (frzE (varF 4))))))
noncomputable def f__law_same (g__law_same : GFn) : SF :=
  (seqF (ifSF (testF (opF (gIs false) (varF 1) (kF .none))) (retF (opF (gIs false) (varF 0) (kF .none))) nxF)
    (seqF (ifSF (orB (truF (isiF (varF 1) "bool")) (truF (isiF (varF 0) "bool"))) (retF (andF (isiF (varF 1) "bool") (andF (isiF (varF 0) "bool") (opF (gEq false) (varF 0) (varF 1))))) nxF)
    (seqF (ifSF (truF (isiF (varF 1) "int")) (retF (andF (isiF (varF 0) "int") (opF (gEq false) (varF 0) (varF 1)))) nxF)
    (seqF (ifSF (truF (isiF (varF 1) "str")) (retF (andF (isiF (varF 0) "str") (opF (gEq false) (varF 0) (varF 1)))) nxF)
    (seqF (ifSF (orB (notB (truF (isiF (varF 1) "tuple"))) (orB (notB (truF (isiF (varF 0) "tuple"))) (testF (opF (gEq true) (callF gLen (consF (varF 0) nilF)) (callF gLen (consF (varF 1) nilF)))))) (retF (kF (.bool false))) nxF)
    (seqF (forSF (rng1F (consF (callF gLen (consF (varF 1) nilF)) nilF)) (nameG 2) (ifSF (notB (truF (callG 2 g__law_same (consF (ixF (varF 0) (varF 2)) (consF (ixF (varF 1) (varF 2)) nilF))))) (retF (kF (.bool false))) nxF))
    (retF (kF (.bool true)))))))))
noncomputable def f__law_names (g__law_draw : GFn) : SF :=
  (seqF (setF 3 (kF (.str "abcdefghijklmnopqrstuvwxyz0123456789")))
    (seqF (setF 4 (ownF nilF))
    (seqF (forSF (rng1F (consF (varF 1) nilF)) (nameG 5) (seqF (setF 6 (mthF "str" gJoin (kF (.str "")) (consF (lcF mkLst (rng1F (consF (varF 2) nilF)) (nameG 7) yesF (ixF (varF 3) (callG 2 g__law_draw (consF (varF 0) (consF (kF (.int 36)) nilF)))) [7]) nilF)))
    (seqF (forSF (rng1F (consF (kF (.int 999)) nilF)) (nameG 7) (seqF (ifSF (testF (opF (gIn true) (varF 6) (varF 4))) brkF nxF)
    (setF 6 (opF gAdd (kF (.str "n")) (callF gStrI (consF (varF 7) nilF))))))
    (exprF (mthF "list" gAppend (varF 4) (consF (varF 6) nilF))))))
    (retF (frzE (varF 4))))))
noncomputable def f__law_land (g__law_draw : GFn) (g__law_names : GFn) (g__law_pick : GFn) (g__law_some : GFn) : SF :=
  (seqF (setF 3 (opF gAdd (kF (.int 1)) (callG 2 g__law_draw (consF (varF 0) (consF (varF 1) nilF)))))
    (seqF (setF 4 (callG 3 g__law_names (consF (varF 0) (consF (varF 3) (consF (callG 2 g__law_pick (consF (varF 0) (consF (lstF (consF (kF (.int 1)) (consF (kF (.int 2)) (consF (kF (.int 8)) nilF)))) nilF))) nilF)))))
    (seqF (setF 5 (ownF nilF))
    (seqF (forSF (rng2F (consF (kF (.int 1)) (consF (varF 3) nilF))) (nameG 6) (exprF (mthF "list" gAppend (varF 5) (consF (tupF (consF (ixF (varF 4) (callG 2 g__law_draw (consF (varF 0) (consF (varF 6) nilF)))) (consF (ixF (varF 4) (varF 6)) nilF))) nilF))))
    (seqF (ifSF (testF (opF (gC fun i j => decide (j < i)) (varF 3) (kF (.int 1)))) (forSF (rng1F (consF (callG 2 g__law_draw (consF (varF 0) (consF (opF gAdd (varF 2) (kF (.int 1))) nilF))) nilF)) (nameG 6) (exprF (mthF "list" gAppend (varF 5) (consF (ifF (testF (opF (gEq false) (callG 2 g__law_draw (consF (varF 0) (consF (kF (.int 3)) nilF))) (kF (.int 0)))) (callG 2 g__law_pick (consF (varF 0) (consF (varF 5) nilF))) (callF gTuple (consF (callG 3 g__law_some (consF (varF 0) (consF (varF 4) (consF (kF (.int 2)) nilF)))) nilF))) nilF)))) nxF)
    (seqF (setF 7 (callG 3 g__law_names (consF (varF 0) (consF (callF gLen (consF (varF 5) nilF)) (consF (callG 2 g__law_pick (consF (varF 0) (consF (lstF (consF (kF (.int 1)) (consF (kF (.int 2)) (consF (kF (.int 8)) nilF)))) nilF))) nilF)))))
    (seqF (setF 8 (ownF nilF))
    (seqF (forSF (seqIF (callG 3 g__law_some (consF (varF 0) (consF (varF 5) (consF (callF gLen (consF (varF 5) nilF)) nilF))))) (nameG 9) (exprF (mthF "list" gAppend (varF 8) (consF (opF gAdd (tupF (consF (ixF (varF 7) (callF gLen (consF (varF 8) nilF))) nilF)) (ifF (testF (opF (gEq false) (callG 2 g__law_draw (consF (varF 0) (consF (kF (.int 2)) nilF))) (kF (.int 0)))) (varF 9) (tupF (consF (ixF (varF 9) (kF (.int 1))) (consF (ixF (varF 9) (kF (.int 0))) nilF))))) nilF))))
    (retF (tupF (consF (callF gTuple (consF (callG 3 g__law_some (consF (varF 0) (consF (varF 4) (consF (varF 3) nilF)))) nilF)) (consF (callF gTuple (consF (varF 8) nilF)) nilF))))))))))))
noncomputable def f__law_ends  : SF :=
  (retF (lcF mkLst (seqIF (ixF (varF 0) (kF (.int 1)))) (nameG 1) yesF (tupF (consF (idxF (ixF (varF 0) (kF (.int 0))) (ixF (varF 1) (kF (.int 1)))) (consF (idxF (ixF (varF 0) (kF (.int 0))) (ixF (varF 1) (kF (.int 2)))) nilF))) [1]))
noncomputable def f__law_labels  : SF :=
  (seqF (setF 2 (lrF mkLst (varF 0)))
    (seqF (forSF (seqIF (varF 1)) (tupG 2 (consG (nameG 3) (consG (nameG 4) nilG))) (seqF (asgF (tupG 2 (consG (nameG 5) (consG (nameG 6) nilG))) (tupF (consF (ixF (varF 2) (varF 4)) (consF (ixF (varF 2) (varF 3)) nilF))))
    (setF 2 (lcF mkLst (seqIF (varF 2)) (nameG 7) yesF (ifF (testF (opF (gEq false) (varF 7) (varF 5))) (varF 6) (varF 7)) [7]))))
    (retF (lcF mkLst (seqIF (varF 2)) (nameG 7) yesF (mthF "list" gIdxL (varF 2) (consF (varF 7) nilF)) [7]))))
noncomputable def f__law_chosen  : SF :=
  (seqF (setF 2 (lstF (consF (lstF nilF) nilF)))
    (seqF (forSF (seqIF (varF 0)) (nameG 3) (setF 2 (opF gAdd (varF 2) (lcF mkLst (seqIF (varF 2)) (nameG 4) (testF (opF (gC fun i j => decide (i < j)) (callF gLen (consF (varF 4) nilF)) (varF 1))) (opF gAdd (varF 4) (lstF (consF (varF 3) nilF))) [4]))))
    (retF (lcF mkLst (seqIF (varF 2)) (nameG 4) (testF (opF (gEq false) (callF gLen (consF (varF 4) nilF)) (varF 1))) (varF 4) [4]))))
noncomputable def f__law_all_trees (g__law_chosen : GFn) (g__law_ends : GFn) (g__law_labels : GFn) : SF :=
  (seqF (asgF (tupG 2 (consG (nameG 1) (consG (nameG 2) nilG))) (tupF (consF (callG 1 g__law_ends (consF (varF 0) nilF)) (consF (callF gLen (consF (ixF (varF 0) (kF (.int 0))) nilF)) nilF))))
    (seqF (setF 3 (ownF nilF))
    (seqF (forSF (seqIF (callG 2 g__law_chosen (consF (lrF mkLst (callF gLen (consF (varF 1) nilF))) (consF (opF (gI CTrue fun i j => i - j) (varF 2) (kF (.int 1))) nilF)))) (nameG 4) (ifSF (testF (opF (gEq false) (callF (gMM maxI) (consF (callG 2 g__law_labels (consF (varF 2) (consF (lcF mkLst (seqIF (varF 4)) (nameG 5) yesF (ixF (varF 1) (varF 5)) [5]) nilF))) nilF)) (kF (.int 0)))) (exprF (mthF "list" gAppend (varF 3) (consF (varF 4) nilF))) nxF))
    (retF (frzE (varF 3))))))
noncomputable def f__law_sides (g__law_ends : GFn) (g__law_labels : GFn) : SF :=
  (seqF (rowF (tupG 2 (consG (nameG 2) (consG (nameG 3) nilG))) 2 (consF (callG 1 g__law_ends (consF (varF 0) nilF)) (consF dnewKF nilF)))
    (seqF (forSF (seqIF (varF 1)) (nameG 4) (setKF (varF 3) (varF 4) (callG 2 g__law_labels (consF (callF gLen (consF (ixF (varF 0) (kF (.int 0))) nilF)) (consF (lcF mkLst (seqIF (varF 1)) (nameG 5) (testF (opF (gEq true) (varF 5) (varF 4))) (ixF (varF 2) (varF 5)) [5]) nilF)))))
    (retF (frzKE (varF 3)))))
noncomputable def f__law_between (g__law_ends : GFn) (g__law_sides : GFn) : SF :=
  (seqF (rowF (tupG 2 (consG (nameG 2) (consG (nameG 3) nilG))) 2 (consF (callG 1 g__law_ends (consF (varF 0) nilF)) (consF dnewKF nilF)))
    (seqF (setF 4 (callG 2 g__law_sides (consF (varF 0) (consF (varF 1) nilF))))
    (seqF (forSF (seqIF (varF 1)) (nameG 5) (setKF (varF 3) (varF 5) (lcF mkLst (rng1F (consF (callF gLen (consF (varF 2) nilF)) nilF)) (nameG 6) (testF (opF (gEq true) (ixF (ixF (varF 4) (varF 5)) (ixF (ixF (varF 2) (varF 6)) (kF (.int 0)))) (ixF (ixF (varF 4) (varF 5)) (ixF (ixF (varF 2) (varF 6)) (kF (.int 1)))))) (varF 6) [6])))
    (retF (frzKE (varF 3))))))
noncomputable def f__law_named  : SF :=
  (retF (callF gTuple (consF (lcF mkLst (seqIF (varF 1)) (nameG 2) yesF (ixF (ixF (ixF (varF 0) (kF (.int 1))) (varF 2)) (kF (.int 0))) [2]) nilF)))
noncomputable def f__law_free_sets (g__law_ends : GFn) (g__law_labels : GFn) : SF :=
  (seqF (asgF (tupG 2 (consG (nameG 1) (consG (nameG 2) nilG))) (tupF (consF (callG 1 g__law_ends (consF (varF 0) nilF)) (consF (callF gLen (consF (ixF (varF 0) (kF (.int 0))) nilF)) nilF))))
    (seqF (setF 3 (lstF (consF (lstF nilF) nilF)))
    (seqF (forSF (rng1F (consF (callF gLen (consF (varF 1) nilF)) nilF)) (nameG 4) (setF 3 (opF gAdd (varF 3) (lcF mkLst (seqIF (varF 3)) (nameG 6) yesF (opF gAdd (varF 6) (lstF (consF (varF 4) nilF))) [6]))))
    (seqF (setF 5 (ownF nilF))
    (seqF (forSF (seqIF (varF 3)) (nameG 6) (seqF (setF 7 (callG 2 g__law_labels (consF (varF 2) (consF (lcF mkLst (seqIF (varF 6)) (nameG 4) yesF (ixF (varF 1) (varF 4)) [4]) nilF))))
    (ifSF (testF (opF (gEq false) (callF gLen (consF (varF 6) nilF)) (opF (gI CTrue fun i j => i - j) (varF 2) (callF gLen (consF (callF gDictP (consF (lcF mkLst (seqIF (varF 7)) (nameG 8) yesF (tupF (consF (varF 8) (consF (kF (.int 1)) nilF))) [8]) nilF)) nilF))))) (exprF (mthF "list" gAppend (varF 5) (consF (varF 6) nilF))) nxF)))
    (retF (frzE (varF 5))))))))
noncomputable def f__law_tree_over (g__law_ends : GFn) (g__law_labels : GFn) : SF :=
  (seqF (rowF (tupG 2 (consG (nameG 2) (consG (nameG 3) nilG))) 2 (consF (callG 1 g__law_ends (consF (varF 0) nilF)) (consF (callF gListO (consF (varF 1) nilF)) nilF)))
    (seqF (forSF (rng3F (consF (opF (gI CTrue fun i j => i - j) (callF gLen (consF (varF 2) nilF)) (kF (.int 1))) (consF (negF (kF (.int 1))) (consF (negF (kF (.int 1))) nilF)))) (nameG 4) (seqF (setF 5 (callG 2 g__law_labels (consF (callF gLen (consF (ixF (varF 0) (kF (.int 0))) nilF)) (consF (lcG mkLst (seqIG (varF 3)) (nameG 6) yesF (ixF (varF 2) (varF 6)) [6]) nilF))))
    (ifSF (testF (opF (gEq true) (ixF (varF 5) (ixF (ixF (varF 2) (varF 4)) (kF (.int 0)))) (ixF (varF 5) (ixF (ixF (varF 2) (varF 4)) (kF (.int 1)))))) (exprF (mthF "list" gAppend (varF 3) (consF (varF 4) nilF))) nxF)))
    (retF (callF gSorted (consF (varF 3) nilF)))))
noncomputable def f__law_last_ones (g__law_between : GFn) : SF :=
  (seqF (setF 2 (callG 2 g__law_between (consF (varF 0) (consF (varF 1) nilF))))
    (retF (lcF mkLst (seqIF (varF 1)) (nameG 3) (testF (opF (gEq false) (callF (gMM maxI) (consF (ixF (varF 2) (varF 3)) nilF)) (varF 3))) (varF 3) [3])))
noncomputable def f__law_two_to  : SF :=
  (seqF (setF 1 (kF (.int 1)))
    (seqF (forSF (rng1F (consF (varF 0) nilF)) (nameG 2) (setF 1 (opF gMulA (kF (.int 2)) (varF 1))))
    (retF (varF 1))))
noncomputable def f_law (w0 : World) (g__law_all_trees : GFn) (g__law_bag : GFn) (g__law_draw : GFn) (g__law_free_sets : GFn) (g__law_land : GFn) (g__law_last_ones : GFn) (g__law_named : GFn) (g__law_same : GFn) (g__law_tree_over : GFn) (g__law_two_to : GFn) (g_inner_level : GFn) (g_tree_over : GFn) : SF :=
  (seqF (setF 1 (callG 1 g__law_bag (consF (varF 0) nilF)))
    (seqF (forSF (rng1F (consF (kF (.int 2)) nilF)) (nameG 2) (seqF (setF 3 (ifF (testF (opF (gEq false) (callG 2 g__law_draw (consF (varF 1) (consF (kF (.int 2)) nilF))) (kF (.int 0)))) (callG 3 g__law_land (consF (varF 1) (consF (kF (.int 6)) (consF (kF (.int 3)) nilF)))) (callG 3 g__law_land (consF (varF 1) (consF (kF (.int 4)) (consF (kF (.int 5)) nilF))))))
    (seqF (setF 4 (dnewTF w0))
    (seqF (forSF (seqIF (callG 1 g__law_free_sets (consF (varF 3) nilF))) (nameG 5) (seqF (setF 6 (callG 2 g__law_tree_over (consF (varF 3) (consF (varF 5) nilF))))
    (seqF (setF 7 (callG 2 g__law_named (consF (varF 3) (consF (varF 6) nilF))))
    (seqF (setTF w0 (varF 4) (varF 7) (opF gAdd (get2F w0 (varF 4) (varF 7) (kF (.int 0))) (kF (.int 1))))
    (seqF (ifSF (testF (opF (gC fun i j => decide (j < i)) (callF gLen (consF (lcF mkLst (seqIF (varF 6)) (nameG 9) (andB (testF (opF (gIn true) (varF 9) (varF 5))) (testF (opF (gIn true) (varF 9) (callG 2 g__law_last_ones (consF (varF 3) (consF (varF 6) nilF)))))) (varF 9) [9]) nilF)) (kF (.int 0)))) (retF (kF (.bool false))) nxF)
    (ifSF (andB (testF (opF (gEq false) (callG 2 g__law_draw (consF (varF 1) (consF (kF (.int 3)) nilF))) (kF (.int 0)))) (notB (truF (callG 2 g__law_same (consF (callG 2 g_tree_over (consF (varF 3) (consF (callG 2 g__law_named (consF (varF 3) (consF (varF 5) nilF))) nilF))) (consF (varF 7) nilF)))))) (retF (kF (.bool false))) nxF))))))
    (seqF (forSF (seqIF (callG 1 g__law_all_trees (consF (varF 3) nilF))) (nameG 6) (seqF (setF 7 (callG 2 g__law_named (consF (varF 3) (consF (varF 6) nilF))))
    (seqF (setF 8 (callF gLen (consF (callG 2 g__law_last_ones (consF (varF 3) (consF (varF 6) nilF))) nilF)))
    (ifSF (orB (testF (opF (gEq true) (get2F w0 (varF 4) (varF 7) (kF (.int 0))) (callG 1 g__law_two_to (consF (varF 8) nilF)))) (notB (truF (callG 2 g__law_same (consF (callG 2 g_inner_level (consF (varF 3) (consF (varF 7) nilF))) (consF (varF 8) nilF)))))) (retF (kF (.bool false))) nxF))))
    (ifSF (notB (truF (callG 2 g__law_same (consF (callKwF 2 2 [1, 0] g_tree_over (consF (tupF nilF) (consF (varF 3) nilF))) (consF (callG 2 g__law_named (consF (varF 3) (consF (callG 2 g__law_tree_over (consF (varF 3) (consF (lstF nilF) nilF))) nilF))) nilF))))) (retF (kF (.bool false))) nxF))))))
    (retF (kF (.bool true)))))
structure BZ (mg : Str → Option Value) : Prop where
  z_abs : mg "abs" = none
  z_bool : mg "bool" = none
  z_dict : mg "dict" = none
  z_enumerate : mg "enumerate" = none
  z_int : mg "int" = none
  z_isinstance : mg "isinstance" = none
  z_len : mg "len" = none
  z_list : mg "list" = none
  z_max : mg "max" = none
  z_range : mg "range" = none
  z_sorted : mg "sorted" = none
  z_str : mg "str" = none
  z_sum : mg "sum" = none
  z_tuple : mg "tuple" = none
section
variable {P : Program} {w : World} {K : PySem.W.Frag} {mg : Str → Option Value} {base : Heap} {T : List Addr}
theorem d_pairs_of {f c : Addr} {fd : FuncData} {k : Nat} (B : BZ mg) (FC : FunC K "pairs_of" "pairs_of" s_pairs_of f fd c)   :
    FnOk P w K mg base (L2.CX P w) (k + 1) f fd p_pairs_of (spG K T p_pairs_of.length (runF n_pairs_of (f_pairs_of ))) := by
  refine fn_C FC sc_pairs_of fun A outer s H E hr => ?_
  have F := bodyX_fam (P := P) (w := w) (K := K) (mg := mg) (base := base) (outer := outer) (H := H) (E := E) hr sc_pairs_of.nd
  have A : At (bodyX P w K mg base n_pairs_of "pairs_of" s_pairs_of f c A outer s H E) P w mg base k (WE0 E) := ⟨fun _ => rfl, fun _ => rfl, fun _ => rfl, fun _ => rfl, fun _ => hr, bodyX_takes⟩
  have hp := bodyX_passes (P := P) (w := w) (K := K) (mg := mg) (base := base) (N := n_pairs_of) (qual := "pairs_of") (st := s_pairs_of) (f := f) (c := c) (A := ‹Around›) (outer := outer) (s := s) (H := H) (E := E)
  exact (dss_cons (ds_set F 1 (de_dc F [("number", 2), ("village", 3)] (di_enum F (A.none B.z_enumerate) (da_cons (de_ix F (de_var F 0) de_int) da_nil)) (dg_tup (F.blk _) 2 (dgs_cons (dg_name (F.blk _) 2) (dgs_cons (dg_name (F.blk _) 3) dgs_nil))) dts_nil (de_var (F.blk _) 3) (de_var (F.blk _) 2) (fun _ => blkOk_by (by first | (show blkC _ (defScope s_pairs_of) _ _ = true; decide +kernel) | (show blkC _ (relS _ (defScope s_pairs_of)) _ _ = true; decide +kernel) | (show blkC _ (relS _ (relS _ (defScope s_pairs_of))) _ _ = true; decide +kernel)))))
    (dss_one (ds_ret (de_lcW F mkok_lst mklen_lst [("name", 4), ("one", 5), ("other", 6)] (di_seq F (de_ix F (de_var F 0) de_int)) (dg_tup (F.blk _) 3 (dgs_cons (dg_name (F.blk _) 4) (dgs_cons (dg_name (F.blk _) 5) (dgs_cons (dg_name (F.blk _) 6) dgs_nil)))) dts_nil (de_tup (da_cons (de_ix (F.blk _) (de_var (F.blk _) 1) (de_var (F.blk _) 5)) (da_cons (de_ix (F.blk _) (de_var (F.blk _) 1) (de_var (F.blk _) 6)) da_nil))) (fun _ => blkOk_by (by first | (show blkC _ (defScope s_pairs_of) _ _ = true; decide +kernel) | (show blkC _ (relS _ (defScope s_pairs_of)) _ _ = true; decide +kernel) | (show blkC _ (relS _ (relS _ (defScope s_pairs_of))) _ _ = true; decide +kernel)))))))
theorem d_reached {f c : Addr} {fd : FuncData} {k : Nat} (B : BZ mg) (FC : FunC K "reached" "reached" s_reached f fd c)   :
    FnOk P w K mg base (L2.CX P w) (k + 1) f fd p_reached (spG K T p_reached.length (runF n_reached (f_reached ))) := by
  refine fn_C FC sc_reached fun A outer s H E hr => ?_
  have F := bodyX_fam (P := P) (w := w) (K := K) (mg := mg) (base := base) (outer := outer) (H := H) (E := E) hr sc_reached.nd
  have A : At (bodyX P w K mg base n_reached "reached" s_reached f c A outer s H E) P w mg base k (WE0 E) := ⟨fun _ => rfl, fun _ => rfl, fun _ => rfl, fun _ => rfl, fun _ => hr, bodyX_takes⟩
  have hp := bodyX_passes (P := P) (w := w) (K := K) (mg := mg) (base := base) (N := n_reached) (qual := "reached") (st := s_reached) (f := f) (c := c) (A := ‹Around›) (outer := outer) (s := s) (H := H) (E := E)
  exact (dss_cons (by first | exact (ds_setLcW F mkok_own mklen_own 3 [("_", 9)] (di_range1 (A.none B.z_range) (da_cons (de_var F 0) da_nil)) (dg_name (F.blk _) 9) dts_nil (de_own da_nil) (fun _ => blkOk_by (by first | (show blkC _ (defScope s_reached) _ _ = true; decide +kernel) | (show blkC _ (relS _ (defScope s_reached)) _ _ = true; decide +kernel) | (show blkC _ (relS _ (relS _ (defScope s_reached))) _ _ = true; decide +kernel)))) | exact ds_set F 3 (de_lcW F mkok_own mklen_own [("_", 9)] (di_range1 (A.none B.z_range) (da_cons (de_var F 0) da_nil)) (dg_name (F.blk _) 9) dts_nil (de_own da_nil) (fun _ => blkOk_by (by first | (show blkC _ (defScope s_reached) _ _ = true; decide +kernel) | (show blkC _ (relS _ (defScope s_reached)) _ _ = true; decide +kernel) | (show blkC _ (relS _ (relS _ (defScope s_reached))) _ _ = true; decide +kernel)))))
    (dss_cons (ds_for F (di_seq F (de_var F 1)) (dg_tup F 2 (dgs_cons (dg_name F 4) (dgs_cons (dg_name F 5) dgs_nil))) (dss_cons (ds_expr (de_mth F PySem.F.plainAttrs_list PySem.F.slot_list_append PySem.F.type_list_append (mtd_append) (de_ix F (de_var F 3) (de_var F 4)) (da_cons (de_var F 5) da_nil)))
    (dss_one (ds_expr (de_mth F PySem.F.plainAttrs_list PySem.F.slot_list_append PySem.F.type_list_append (mtd_append) (de_ix F (de_var F 3) (de_var F 5)) (da_cons (de_var F 4) da_nil))))) hp)
    (dss_cons (ds_set F 6 (de_callTy (cd_listO F) (A.none B.z_list) rfl (da_cons (de_var F 2) da_nil)))
    (dss_cons (ds_set F 7 de_int)
    (dss_cons (ds_while (dt_cmp (opd_lt) (de_var F 7) (de_callB (cd_len F) (A.none B.z_len) PySem.boot_len (da_cons (de_var F 6) da_nil))) (dss_cons (ds_forG F (dig_seq F (de_ix F (de_var F 3) (de_ix F (de_var F 6) (de_var F 7)))) (dg_name F 8) (dss_one (ds_if (dt_cmp (opd_notIn F) (de_var F 8) (de_var F 6)) (dss_one (ds_expr (de_mth F PySem.F.plainAttrs_list PySem.F.slot_list_append PySem.F.type_list_append (mtd_append) (de_var F 6) (da_cons (de_var F 8) da_nil)))) dss_nil)) hp)
    (dss_one (ds_aug F 7 ipd_add de_int))) hp)
    (dss_one (ds_ret (de_frz (de_var F 6)))))))))
theorem d_road_numbers {f c : Addr} {fd : FuncData} {k : Nat} (B : BZ mg) (FC : FunC K "road_numbers" "road_numbers" s_road_numbers f fd c)   :
    FnOk P w K mg base (L2.CX P w) (k + 1) f fd p_road_numbers (spG K T p_road_numbers.length (runF n_road_numbers (f_road_numbers ))) := by
  refine fn_C FC sc_road_numbers fun A outer s H E hr => ?_
  have F := bodyX_fam (P := P) (w := w) (K := K) (mg := mg) (base := base) (outer := outer) (H := H) (E := E) hr sc_road_numbers.nd
  have A : At (bodyX P w K mg base n_road_numbers "road_numbers" s_road_numbers f c A outer s H E) P w mg base k (WE0 E) := ⟨fun _ => rfl, fun _ => rfl, fun _ => rfl, fun _ => rfl, fun _ => hr, bodyX_takes⟩
  have hp := bodyX_passes (P := P) (w := w) (K := K) (mg := mg) (base := base) (N := n_road_numbers) (qual := "road_numbers") (st := s_road_numbers) (f := f) (c := c) (A := ‹Around›) (outer := outer) (s := s) (H := H) (E := E)
  exact (dss_one (ds_ret (de_lcW F mkok_own mklen_own [("number", 2), ("road", 3)] (di_enum F (A.none B.z_enumerate) (da_cons (de_ix F (de_var F 0) de_int) da_nil)) (dg_tup (F.blk _) 2 (dgs_cons (dg_name (F.blk _) 2) (dgs_cons (dg_name (F.blk _) 3) dgs_nil))) (dts_one (dt_cmp (opd_in (F.blk _)) (de_ix (F.blk _) (de_var (F.blk _) 3) de_int) (de_var (F.blk _) 1))) (de_var (F.blk _) 2) (fun _ => blkOk_by (by first | (show blkC _ (defScope s_road_numbers) _ _ = true; decide +kernel) | (show blkC _ (relS _ (defScope s_road_numbers)) _ _ = true; decide +kernel) | (show blkC _ (relS _ (relS _ (defScope s_road_numbers))) _ _ = true; decide +kernel))))))
theorem d_cut_roads {f c : Addr} {fd : FuncData} {k : Nat} (B : BZ mg) (FC : FunC K "cut_roads" "cut_roads" s_cut_roads f fd c) {g_reached : GFn} {l_reached : Nat} (c_reached : Callee P w K mg base T "reached" l_reached p_reached g_reached) (hC_reached : l_reached ≤ k) :
    FnOk P w K mg base (L2.CX P w) (k + 1) f fd p_cut_roads (spG K T p_cut_roads.length (runF n_cut_roads (f_cut_roads g_reached))) := by
  refine fn_C FC sc_cut_roads fun A outer s H E hr => ?_
  have F := bodyX_fam (P := P) (w := w) (K := K) (mg := mg) (base := base) (outer := outer) (H := H) (E := E) hr sc_cut_roads.nd
  have A : At (bodyX P w K mg base n_cut_roads "cut_roads" s_cut_roads f c A outer s H E) P w mg base k (WE0 E) := ⟨fun _ => rfl, fun _ => rfl, fun _ => rfl, fun _ => rfl, fun _ => hr, bodyX_takes⟩
  have hp := bodyX_passes (P := P) (w := w) (K := K) (mg := mg) (base := base) (N := n_cut_roads) (qual := "cut_roads") (st := s_cut_roads) (f := f) (c := c) (A := ‹Around›) (outer := outer) (s := s) (H := H) (E := E)
  exact (dss_cons (by first | exact (ds_setLcW F mkok_lst mklen_lst 4 [("at", 6)] (di_seq F (de_var F 2)) (dg_name (F.blk _) 6) (dts_one (dt_cmp (opd_ne (F.blk _)) (de_var (F.blk _) 6) (de_var (F.blk _) 3))) (de_ix (F.blk _) (de_var (F.blk _) 1) (de_var (F.blk _) 6)) (fun _ => blkOk_by (by first | (show blkC _ (defScope s_cut_roads) _ _ = true; decide +kernel) | (show blkC _ (relS _ (defScope s_cut_roads)) _ _ = true; decide +kernel) | (show blkC _ (relS _ (relS _ (defScope s_cut_roads))) _ _ = true; decide +kernel)))) | exact ds_set F 4 (de_lcW F mkok_lst mklen_lst [("at", 6)] (di_seq F (de_var F 2)) (dg_name (F.blk _) 6) (dts_one (dt_cmp (opd_ne (F.blk _)) (de_var (F.blk _) 6) (de_var (F.blk _) 3))) (de_ix (F.blk _) (de_var (F.blk _) 1) (de_var (F.blk _) 6)) (fun _ => blkOk_by (by first | (show blkC _ (defScope s_cut_roads) _ _ = true; decide +kernel) | (show blkC _ (relS _ (defScope s_cut_roads)) _ _ = true; decide +kernel) | (show blkC _ (relS _ (relS _ (defScope s_cut_roads))) _ _ = true; decide +kernel)))))
    (dss_cons (ds_set F 5 (de_callC F A c_reached hC_reached (da_cons (de_var F 0) (da_cons (de_var F 4) (da_cons (de_lst (da_cons (de_ix F (de_ix F (de_var F 1) (de_var F 3)) de_int) da_nil)) da_nil)))))
    (dss_one (ds_ret (de_lcW F mkok_lst mklen_lst [("at", 6), ("one", 7), ("other", 8)] (di_enum F (A.none B.z_enumerate) (da_cons (de_var F 1) da_nil)) (dg_tup (F.blk _) 2 (dgs_cons (dg_name (F.blk _) 6) (dgs_cons (dg_tup (F.blk _) 2 (dgs_cons (dg_name (F.blk _) 7) (dgs_cons (dg_name (F.blk _) 8) dgs_nil))) dgs_nil))) (dts_one (dt_cmp (opd_ne (F.blk _)) (de_cmp (opd_in (F.blk _)) (de_var (F.blk _) 7) (de_var (F.blk _) 5)) (de_cmp (opd_in (F.blk _)) (de_var (F.blk _) 8) (de_var (F.blk _) 5)))) (de_var (F.blk _) 6) (fun _ => blkOk_by (by first | (show blkC _ (defScope s_cut_roads) _ _ = true; decide +kernel) | (show blkC _ (relS _ (defScope s_cut_roads)) _ _ = true; decide +kernel) | (show blkC _ (relS _ (relS _ (defScope s_cut_roads))) _ _ = true; decide +kernel))))))))
theorem d_inner_of {f c : Addr} {fd : FuncData} {k : Nat} (B : BZ mg) (FC : FunC K "inner_of" "inner_of" s_inner_of f fd c) {g_cut_roads : GFn} {l_cut_roads : Nat} (c_cut_roads : Callee P w K mg base T "cut_roads" l_cut_roads p_cut_roads g_cut_roads) {kg : Nat} (hkg2 : kg + 2 ≤ k) (hkg6 : kg + 6 ≤ k) (hT : ∃ p0, p0 ∈ T ∧ GxR.TabB base mg c p0) (hG_cut_roads : l_cut_roads ≤ kg) :
    FnOk P w K mg base (L2.CX P w) (k + 1) f fd p_inner_of (spG K T p_inner_of.length (runF n_inner_of (f_inner_of g_cut_roads))) := by
  obtain ⟨p0, hp0, tb⟩ := hT
  refine fn_C FC sc_inner_of fun A outer s H E hr => ?_
  have F := bodyX_fam (P := P) (w := w) (K := K) (mg := mg) (base := base) (outer := outer) (H := H) (E := E) hr sc_inner_of.nd
  have A : At (bodyX P w K mg base n_inner_of "inner_of" s_inner_of f c A outer s H E) P w mg base k (WE0 E) := ⟨fun _ => rfl, fun _ => rfl, fun _ => rfl, fun _ => rfl, fun _ => hr, bodyX_takes⟩
  have hp := bodyX_passes (P := P) (w := w) (K := K) (mg := mg) (base := base) (N := n_inner_of) (qual := "inner_of") (st := s_inner_of) (f := f) (c := c) (A := ‹Around›) (outer := outer) (s := s) (H := H) (E := E)
  have ct : CodeT (bodyX P w K mg base n_inner_of "inner_of" s_inner_of f c ‹Around› outer s H E ()) T c p0 := ⟨tb, rfl, hp0⟩
  exact (dss_one (ds_ret (de_sumG (gen_D (k := kg) F (fun _ => ⟨tb, rfl, hp0⟩) (fun i => (A.room i).mono hkg2) [("road", 3)] (di_seq F (de_var F 2)) (dg_name (F.gex _ _) 3) (dts_one (dt_cmp (opd_eq (F.gex _ _)) (de_callB (cd_max1 (F.gex _ _)) ((A.gex _ _).none B.z_max) rfl (da_cons (de_callC (F.gex _ _) (A.gex _ _) c_cut_roads hG_cut_roads (da_cons (de_var (F.gex _ _) 0) (da_cons (de_var (F.gex _ _) 1) (da_cons (de_var (F.gex _ _) 2) (da_cons (de_var (F.gex _ _) 3) da_nil))))) da_nil)) (de_var (F.gex _ _) 3))) de_int (fun _ => gok_by (by first | (show gokC _ (defScope s_inner_of) _ _ = true; decide +kernel) | (show gokC _ (relS _ (defScope s_inner_of)) _ _ = true; decide +kernel) | (show gokC _ (relS _ (relS _ (defScope s_inner_of))) _ _ = true; decide +kernel)))) (fun i => (A.room i).mono (by have := hkg6; omega)) (A.none B.z_sum))))
theorem d_inner_level {f c : Addr} {fd : FuncData} {k : Nat} (B : BZ mg) (FC : FunC K "inner_level" "inner_level" s_inner_level f fd c) {g_inner_of : GFn} {g_pairs_of : GFn} {g_road_numbers : GFn} {l_inner_of l_pairs_of l_road_numbers : Nat} (c_inner_of : Callee P w K mg base T "inner_of" l_inner_of p_inner_of g_inner_of) (c_pairs_of : Callee P w K mg base T "pairs_of" l_pairs_of p_pairs_of g_pairs_of) (c_road_numbers : Callee P w K mg base T "road_numbers" l_road_numbers p_road_numbers g_road_numbers) (hC_inner_of : l_inner_of ≤ k) (hC_pairs_of : l_pairs_of ≤ k) (hC_road_numbers : l_road_numbers ≤ k) :
    FnOk P w K mg base (L2.CX P w) (k + 1) f fd p_inner_level (spG K T p_inner_level.length (runF n_inner_level (f_inner_level g_inner_of g_pairs_of g_road_numbers))) := by
  refine fn_C FC sc_inner_level fun A outer s H E hr => ?_
  have F := bodyX_fam (P := P) (w := w) (K := K) (mg := mg) (base := base) (outer := outer) (H := H) (E := E) hr sc_inner_level.nd
  have A : At (bodyX P w K mg base n_inner_level "inner_level" s_inner_level f c A outer s H E) P w mg base k (WE0 E) := ⟨fun _ => rfl, fun _ => rfl, fun _ => rfl, fun _ => rfl, fun _ => hr, bodyX_takes⟩
  have hp := bodyX_passes (P := P) (w := w) (K := K) (mg := mg) (base := base) (N := n_inner_level) (qual := "inner_level") (st := s_inner_level) (f := f) (c := c) (A := ‹Around›) (outer := outer) (s := s) (H := H) (E := E)
  exact (dss_one (ds_ret (de_callC F A c_inner_of hC_inner_of (da_cons (de_callB (cd_len F) (A.none B.z_len) PySem.boot_len (da_cons (de_ix F (de_var F 0) de_int) da_nil)) (da_cons (de_callC F A c_pairs_of hC_pairs_of (da_cons (de_var F 0) da_nil)) (da_cons (de_frz (de_callC F A c_road_numbers hC_road_numbers (da_cons (de_var F 0) (da_cons (de_var F 1) da_nil)))) da_nil))))))
theorem d_tree_over {f c : Addr} {fd : FuncData} {k : Nat} (B : BZ mg) (FC : FunC K "tree_over" "tree_over" s_tree_over f fd c) {g_pairs_of : GFn} {g_reached : GFn} {g_road_numbers : GFn} {l_pairs_of l_reached l_road_numbers : Nat} (c_pairs_of : Callee P w K mg base T "pairs_of" l_pairs_of p_pairs_of g_pairs_of) (c_reached : Callee P w K mg base T "reached" l_reached p_reached g_reached) (c_road_numbers : Callee P w K mg base T "road_numbers" l_road_numbers p_road_numbers g_road_numbers) {kg : Nat} (hkg2 : kg + 2 ≤ k) (hkg6 : kg + 6 ≤ k) (hT : ∃ p0, p0 ∈ T ∧ GxR.TabB base mg c p0) (hC_pairs_of : l_pairs_of ≤ k) (hC_reached : l_reached ≤ k) (hC_road_numbers : l_road_numbers ≤ k) :
    FnOk P w K mg base (L2.CX P w) (k + 1) f fd p_tree_over (spG K T p_tree_over.length (runF n_tree_over (f_tree_over g_pairs_of g_reached g_road_numbers))) := by
  obtain ⟨p0, hp0, tb⟩ := hT
  refine fn_C FC sc_tree_over fun A outer s H E hr => ?_
  have F := bodyX_fam (P := P) (w := w) (K := K) (mg := mg) (base := base) (outer := outer) (H := H) (E := E) hr sc_tree_over.nd
  have A : At (bodyX P w K mg base n_tree_over "tree_over" s_tree_over f c A outer s H E) P w mg base k (WE0 E) := ⟨fun _ => rfl, fun _ => rfl, fun _ => rfl, fun _ => rfl, fun _ => hr, bodyX_takes⟩
  have hp := bodyX_passes (P := P) (w := w) (K := K) (mg := mg) (base := base) (N := n_tree_over) (qual := "tree_over") (st := s_tree_over) (f := f) (c := c) (A := ‹Around›) (outer := outer) (s := s) (H := H) (E := E)
  have ct : CodeT (bodyX P w K mg base n_tree_over "tree_over" s_tree_over f c ‹Around› outer s H E ()) T c p0 := ⟨tb, rfl, hp0⟩
  exact (dss_cons (ds_asg (dg_tup F 2 (dgs_cons (dg_name F 2) (dgs_cons (dg_name F 3) dgs_nil))) (de_tup (da_cons (de_callB (cd_len F) (A.none B.z_len) PySem.boot_len (da_cons (de_ix F (de_var F 0) de_int) da_nil)) (da_cons (de_callC F A c_pairs_of hC_pairs_of (da_cons (de_var F 0) da_nil)) da_nil))))
    (dss_cons (ds_set F 4 (de_callC F A c_road_numbers hC_road_numbers (da_cons (de_var F 0) (da_cons (de_var F 1) da_nil))))
    (dss_cons (ds_for F (di_range3 (A.none B.z_range) (da_cons (de_op (opd_sub) (de_callB (cd_len F) (A.none B.z_len) PySem.boot_len (da_cons (de_var F 3) da_nil)) de_int) (da_cons (de_neg de_int) (da_cons (de_neg de_int) da_nil)))) (dg_name F 5) (dss_cons (ds_asg (dg_tup F 2 (dgs_cons (dg_name F 6) (dgs_cons (dg_name F 7) dgs_nil))) (de_ix F (de_var F 3) (de_var F 5)))
    (dss_one (ds_if (DW.dt (dw_and (dt_cmp (opd_notIn F) (de_var F 5) (de_var F 4)) (dw_and1 (dt_cmp (opd_notIn F) (de_var F 7) (de_callC F A c_reached hC_reached (da_cons (de_var F 2) (da_cons (de_lcWG F mkok_lst mklen_lst [("at", 8)] (dig_seq F (de_var F 4)) (dg_name (F.blk _) 8) dts_nil (de_ix (F.blk _) (de_var (F.blk _) 3) (de_var (F.blk _) 8)) (fun _ => blkOk_by (by first | (show blkC _ (defScope s_tree_over) _ _ = true; decide +kernel) | (show blkC _ (relS _ (defScope s_tree_over)) _ _ = true; decide +kernel) | (show blkC _ (relS _ (relS _ (defScope s_tree_over))) _ _ = true; decide +kernel)))) (da_cons (de_lst (da_cons (de_var F 6) da_nil)) da_nil)))))))) (dss_one (ds_expr (de_mth F PySem.F.plainAttrs_list PySem.F.slot_list_append PySem.F.type_list_append (mtd_append) (de_var F 4) (da_cons (de_var F 5) da_nil)))) dss_nil))) hp)
    (dss_one (ds_ret (de_tupleG (gen_D (k := kg) F (fun _ => ⟨tb, rfl, hp0⟩) (fun i => (A.room i).mono hkg2) [("road", 5)] (di_seq F (de_callB (cd_sorted F) (A.none B.z_sorted) rfl (da_cons (de_var F 4) da_nil))) (dg_name (F.gex _ _) 5) dts_nil (de_ix (F.gex _ _) (de_ix (F.gex _ _) (de_ix (F.gex _ _) (de_var (F.gex _ _) 0) de_int) (de_var (F.gex _ _) 5)) de_int) (fun _ => gok_by (by first | (show gokC _ (defScope s_tree_over) _ _ = true; decide +kernel) | (show gokC _ (relS _ (defScope s_tree_over)) _ _ = true; decide +kernel) | (show gokC _ (relS _ (relS _ (defScope s_tree_over))) _ _ = true; decide +kernel)))) (fun i => (A.room i).mono hkg6) (A.none B.z_tuple)))))))
theorem d__law_bag {f c : Addr} {fd : FuncData} {k : Nat} (B : BZ mg) (FC : FunC K "_law_bag" "_law_bag" s__law_bag f fd c)   :
    FnOk P w K mg base (L2.CX P w) (k + 1) f fd p__law_bag (spG K T p__law_bag.length (runF n__law_bag (f__law_bag ))) := by
  refine fn_C FC sc__law_bag fun A outer s H E hr => ?_
  have F := bodyX_fam (P := P) (w := w) (K := K) (mg := mg) (base := base) (outer := outer) (H := H) (E := E) hr sc__law_bag.nd
  have A : At (bodyX P w K mg base n__law_bag "_law_bag" s__law_bag f c A outer s H E) P w mg base k (WE0 E) := ⟨fun _ => rfl, fun _ => rfl, fun _ => rfl, fun _ => rfl, fun _ => hr, bodyX_takes⟩
  have hp := bodyX_passes (P := P) (w := w) (K := K) (mg := mg) (base := base) (N := n__law_bag) (qual := "_law_bag") (st := s__law_bag) (f := f) (c := c) (A := ‹Around›) (outer := outer) (s := s) (H := H) (E := E)
  exact (dss_cons (ds_set F 1 (de_op (opd_plus F) (de_lcW F mkok_lst mklen_lst [("cell", 3)] (di_seq F (de_var F 0)) (dg_name (F.blk _) 3) dts_nil (de_callB (cd_abs) ((A.blk _).none B.z_abs) rfl (da_cons (de_callTy (cd_int) ((A.blk _).none B.z_int) rfl (da_cons (de_var (F.blk _) 3) da_nil)) da_nil)) (fun _ => blkOk_by (by first | (show blkC _ (defScope s__law_bag) _ _ = true; decide +kernel) | (show blkC _ (relS _ (defScope s__law_bag)) _ _ = true; decide +kernel) | (show blkC _ (relS _ (relS _ (defScope s__law_bag))) _ _ = true; decide +kernel)))) (de_lst (da_cons de_int da_nil))))
    (dss_cons (ds_set F 2 (de_own da_nil))
    (dss_cons (ds_if (dt_cmp (opd_eq F) (de_op (opd_mod) (de_callTy (cd_int) (A.none B.z_int) rfl (da_cons (de_ix F (de_var F 1) de_int) da_nil)) de_int) de_int) (dss_cons (by first | exact (ds_setLcW F mkok_own mklen_own 2 [("cell", 3)] (di_seq F (de_var F 1)) (dg_name (F.blk _) 3) (dts_one (dt_cmp (opd_ge) (de_var (F.blk _) 3) (de_op (opd_pow) de_int de_int))) (de_op (opd_div) (de_var (F.blk _) 3) de_int) (fun _ => blkOk_by (by first | (show blkC _ (defScope s__law_bag) _ _ = true; decide +kernel) | (show blkC _ (relS _ (defScope s__law_bag)) _ _ = true; decide +kernel) | (show blkC _ (relS _ (relS _ (defScope s__law_bag))) _ _ = true; decide +kernel)))) | exact ds_set F 2 (de_lcW F mkok_own mklen_own [("cell", 3)] (di_seq F (de_var F 1)) (dg_name (F.blk _) 3) (dts_one (dt_cmp (opd_ge) (de_var (F.blk _) 3) (de_op (opd_pow) de_int de_int))) (de_op (opd_div) (de_var (F.blk _) 3) de_int) (fun _ => blkOk_by (by first | (show blkC _ (defScope s__law_bag) _ _ = true; decide +kernel) | (show blkC _ (relS _ (defScope s__law_bag)) _ _ = true; decide +kernel) | (show blkC _ (relS _ (relS _ (defScope s__law_bag))) _ _ = true; decide +kernel)))))
    (dss_one (ds_expr (de_mth0 F PySem.F.plainAttrs_list PySem.F.slot_list_reverse PySem.F.type_list_reverse (mtd_reverse) (de_var F 2))))) dss_nil)
    (dss_one (ds_ret (de_own (da_cons de_int (da_cons de_int (da_cons (de_var F 2) (da_cons (de_lcW F mkok_lst mklen_lst [("cell", 3)] (di_seq F (de_var F 1)) (dg_name (F.blk _) 3) dts_nil (de_op (opd_mod) (de_callTy (cd_int) ((A.blk _).none B.z_int) rfl (da_cons (de_var (F.blk _) 3) da_nil)) de_int) (fun _ => blkOk_by (by first | (show blkC _ (defScope s__law_bag) _ _ = true; decide +kernel) | (show blkC _ (relS _ (defScope s__law_bag)) _ _ = true; decide +kernel) | (show blkC _ (relS _ (relS _ (defScope s__law_bag))) _ _ = true; decide +kernel)))) da_nil))))))))))
theorem d__law_draw {f c : Addr} {fd : FuncData} {k : Nat} (B : BZ mg) (FC : FunC K "_law_draw" "_law_draw" s__law_draw f fd c)   :
    FnOk P w K mg base (L2.CX P w) (k + 1) f fd p__law_draw (spG K T p__law_draw.length (runF n__law_draw (f__law_draw ))) := by
  refine fn_C FC sc__law_draw fun A outer s H E hr => ?_
  have F := bodyX_fam (P := P) (w := w) (K := K) (mg := mg) (base := base) (outer := outer) (H := H) (E := E) hr sc__law_draw.nd
  have A : At (bodyX P w K mg base n__law_draw "_law_draw" s__law_draw f c A outer s H E) P w mg base k (WE0 E) := ⟨fun _ => rfl, fun _ => rfl, fun _ => rfl, fun _ => rfl, fun _ => hr, bodyX_takes⟩
  have hp := bodyX_passes (P := P) (w := w) (K := K) (mg := mg) (base := base) (N := n__law_draw) (qual := "_law_draw") (st := s__law_draw) (f := f) (c := c) (A := ‹Around›) (outer := outer) (s := s) (H := H) (E := E)
  exact (dss_cons (ds_setIx (de_var F 0) de_int (de_op (opd_plus F) (de_ix F (de_var F 0) de_int) de_int))
    (dss_cons (ds_if (DW.dt (dw_and (dt_cmp (opd_eq F) (de_ix F (de_var F 0) de_int) de_int) (dw_and1 (dt_cmp (opd_gt) (de_callB (cd_len F) (A.none B.z_len) PySem.boot_len (da_cons (de_ix F (de_var F 0) de_int) da_nil)) de_int)))) (dss_one (ds_setIx (de_var F 0) de_int (de_mth0 F PySem.F.plainAttrs_list PySem.F.slot_list_pop PySem.F.type_list_pop (mtd_pop) (de_ix F (de_var F 0) de_int)))) dss_nil)
    (dss_cons (ds_if (dt_cmp (opd_gt) (de_ix F (de_var F 0) de_int) de_int) (dss_cons (ds_set F 2 (de_op (opd_mod) (de_callTy (cd_int) (A.none B.z_int) rfl (da_cons (de_ix F (de_var F 0) de_int) da_nil)) (de_var F 1)))
    (dss_cons (ds_setIx (de_var F 0) de_int (de_op (opd_div) (de_ix F (de_var F 0) de_int) (de_var F 1)))
    (dss_one (ds_ret (de_var F 2))))) dss_nil)
    (dss_cons (ds_set F 3 (de_ix F (de_ix F (de_var F 0) de_int) (de_op (opd_mod) (de_callTy (cd_int) (A.none B.z_int) rfl (da_cons (de_ix F (de_var F 0) de_int) da_nil)) (de_callB (cd_len F) (A.none B.z_len) PySem.boot_len (da_cons (de_ix F (de_var F 0) de_int) da_nil)))))
    (dss_cons (ds_set F 4 (de_op (opd_mod) (de_callTy (cd_int) (A.none B.z_int) rfl (da_cons (de_op (opd_plus F) (de_op (opd_plus F) (de_op (opd_timesA F) (de_var F 3) de_int) (de_op (opd_timesA F) (de_ix F (de_var F 0) de_int) de_int)) de_int) da_nil)) de_int))
    (dss_one (ds_ret (de_op (opd_mod) (de_op (opd_div) (de_op (opd_mod) (de_callTy (cd_int) (A.none B.z_int) rfl (da_cons (de_op (opd_plus F) (de_op (opd_plus F) (de_op (opd_timesA F) (de_var F 4) (de_var F 4)) (de_op (opd_timesA F) (de_var F 4) de_int)) (de_op (opd_timesA F) (de_ix F (de_var F 0) de_int) de_int)) da_nil)) de_int) de_int) (de_var F 1)))))))))
theorem d__law_pick {f c : Addr} {fd : FuncData} {k : Nat} (B : BZ mg) (FC : FunC K "_law_pick" "_law_pick" s__law_pick f fd c) {g__law_draw : GFn} {l__law_draw : Nat} (c__law_draw : Callee P w K mg base T "_law_draw" l__law_draw p__law_draw g__law_draw) (hC__law_draw : l__law_draw ≤ k) :
    FnOk P w K mg base (L2.CX P w) (k + 1) f fd p__law_pick (spG K T p__law_pick.length (runF n__law_pick (f__law_pick g__law_draw))) := by
  refine fn_C FC sc__law_pick fun A outer s H E hr => ?_
  have F := bodyX_fam (P := P) (w := w) (K := K) (mg := mg) (base := base) (outer := outer) (H := H) (E := E) hr sc__law_pick.nd
  have A : At (bodyX P w K mg base n__law_pick "_law_pick" s__law_pick f c A outer s H E) P w mg base k (WE0 E) := ⟨fun _ => rfl, fun _ => rfl, fun _ => rfl, fun _ => rfl, fun _ => hr, bodyX_takes⟩
  have hp := bodyX_passes (P := P) (w := w) (K := K) (mg := mg) (base := base) (N := n__law_pick) (qual := "_law_pick") (st := s__law_pick) (f := f) (c := c) (A := ‹Around›) (outer := outer) (s := s) (H := H) (E := E)
  exact (dss_one (ds_ret (de_ix F (de_var F 1) (de_callC F A c__law_draw hC__law_draw (da_cons (de_var F 0) (da_cons (de_callB (cd_len F) (A.none B.z_len) PySem.boot_len (da_cons (de_var F 1) da_nil)) da_nil))))))
theorem d__law_some {f c : Addr} {fd : FuncData} {k : Nat} (B : BZ mg) (FC : FunC K "_law_some" "_law_some" s__law_some f fd c) {g__law_draw : GFn} {l__law_draw : Nat} (c__law_draw : Callee P w K mg base T "_law_draw" l__law_draw p__law_draw g__law_draw) (hC__law_draw : l__law_draw ≤ k) :
    FnOk P w K mg base (L2.CX P w) (k + 1) f fd p__law_some (spG K T p__law_some.length (runF n__law_some (f__law_some g__law_draw))) := by
  refine fn_C FC sc__law_some fun A outer s H E hr => ?_
  have F := bodyX_fam (P := P) (w := w) (K := K) (mg := mg) (base := base) (outer := outer) (H := H) (E := E) hr sc__law_some.nd
  have A : At (bodyX P w K mg base n__law_some "_law_some" s__law_some f c A outer s H E) P w mg base k (WE0 E) := ⟨fun _ => rfl, fun _ => rfl, fun _ => rfl, fun _ => rfl, fun _ => hr, bodyX_takes⟩
  have hp := bodyX_passes (P := P) (w := w) (K := K) (mg := mg) (base := base) (N := n__law_some) (qual := "_law_some") (st := s__law_some) (f := f) (c := c) (A := ‹Around›) (outer := outer) (s := s) (H := H) (E := E)
  exact (dss_cons (ds_set F 3 (de_callTy (cd_listO F) (A.none B.z_list) rfl (da_cons (de_var F 1) da_nil)))
    (dss_cons (ds_set F 4 (de_own da_nil))
    (dss_cons (ds_for F (di_range1 (A.none B.z_range) (da_cons (de_var F 2) da_nil)) (dg_name F 5) (dss_one (ds_expr (de_mth F PySem.F.plainAttrs_list PySem.F.slot_list_append PySem.F.type_list_append (mtd_append) (de_var F 4) (da_cons (de_mth F PySem.F.plainAttrs_list PySem.F.slot_list_pop PySem.F.type_list_pop (mtd_pop) (de_var F 3) (da_cons (de_callC F A c__law_draw hC__law_draw (da_cons (de_var F 0) (da_cons (de_callB (cd_len F) (A.none B.z_len) PySem.boot_len (da_cons (de_var F 3) da_nil)) da_nil))) da_nil)) da_nil)))) hp)
    (dss_one (ds_ret (de_frz (de_var F 4)))))))
theorem d__law_same {f c : Addr} {fd : FuncData} {k : Nat} (B : BZ mg) (FC : FunC K "_law_same" "_law_same" s__law_same f fd c) {g__law_same : GFn} {l__law_same : Nat} (c__law_same : Callee P w K mg base T "_law_same" l__law_same p__law_same g__law_same) (hC__law_same : l__law_same ≤ k) :
    FnOk P w K mg base (L2.CX P w) (k + 1) f fd p__law_same (spG K T p__law_same.length (runF n__law_same (f__law_same g__law_same))) := by
  refine fn_C FC sc__law_same fun A outer s H E hr => ?_
  have F := bodyX_fam (P := P) (w := w) (K := K) (mg := mg) (base := base) (outer := outer) (H := H) (E := E) hr sc__law_same.nd
  have A : At (bodyX P w K mg base n__law_same "_law_same" s__law_same f c A outer s H E) P w mg base k (WE0 E) := ⟨fun _ => rfl, fun _ => rfl, fun _ => rfl, fun _ => rfl, fun _ => hr, bodyX_takes⟩
  have hp := bodyX_passes (P := P) (w := w) (K := K) (mg := mg) (base := base) (N := n__law_same) (qual := "_law_same") (st := s__law_same) (f := f) (c := c) (A := ‹Around›) (outer := outer) (s := s) (H := H) (E := E)
  exact (dss_cons (ds_if (dt_cmp (opd_is false) (de_var F 1) de_non) (dss_one (ds_ret (de_cmp (opd_is false) (de_var F 0) de_non))) dss_nil)
    (dss_cons (ds_if (DW.dt (dw_or (dt_truth F (de_isi F (A.none B.z_isinstance) (A.none B.z_bool) rfl (de_var F 1))) (dw_or1 (dt_truth F (de_isi F (A.none B.z_isinstance) (A.none B.z_bool) rfl (de_var F 0)))))) (dss_one (ds_ret (de_and (de_isi F (A.none B.z_isinstance) (A.none B.z_bool) rfl (de_var F 1)) (de_and (de_isi F (A.none B.z_isinstance) (A.none B.z_bool) rfl (de_var F 0)) (de_one (de_cmp (opd_eq F) (de_var F 0) (de_var F 1))))))) dss_nil)
    (dss_cons (ds_if (dt_truth F (de_isi F (A.none B.z_isinstance) (A.none B.z_int) rfl (de_var F 1))) (dss_one (ds_ret (de_and (de_isi F (A.none B.z_isinstance) (A.none B.z_int) rfl (de_var F 0)) (de_one (de_cmp (opd_eq F) (de_var F 0) (de_var F 1)))))) dss_nil)
    (dss_cons (ds_if (dt_truth F (de_isi F (A.none B.z_isinstance) (A.none B.z_str) rfl (de_var F 1))) (dss_one (ds_ret (de_and (de_isi F (A.none B.z_isinstance) (A.none B.z_str) rfl (de_var F 0)) (de_one (de_cmp (opd_eq F) (de_var F 0) (de_var F 1)))))) dss_nil)
    (dss_cons (ds_if (DW.dt (dw_or (dt_not (dt_truth F (de_isi F (A.none B.z_isinstance) (A.none B.z_tuple) rfl (de_var F 1)))) (dw_or (dt_not (dt_truth F (de_isi F (A.none B.z_isinstance) (A.none B.z_tuple) rfl (de_var F 0)))) (dw_or1 (dt_cmp (opd_ne F) (de_callB (cd_len F) (A.none B.z_len) PySem.boot_len (da_cons (de_var F 0) da_nil)) (de_callB (cd_len F) (A.none B.z_len) PySem.boot_len (da_cons (de_var F 1) da_nil))))))) (dss_one (ds_ret de_bl)) dss_nil)
    (dss_cons (ds_for F (di_range1 (A.none B.z_range) (da_cons (de_callB (cd_len F) (A.none B.z_len) PySem.boot_len (da_cons (de_var F 1) da_nil)) da_nil)) (dg_name F 2) (dss_one (ds_if (dt_not (dt_truth F (de_callC F A c__law_same hC__law_same (da_cons (de_ix F (de_var F 0) (de_var F 2)) (da_cons (de_ix F (de_var F 1) (de_var F 2)) da_nil))))) (dss_one (ds_ret de_bl)) dss_nil)) hp)
    (dss_one (ds_ret de_bl))))))))
theorem d__law_names {f c : Addr} {fd : FuncData} {k : Nat} (B : BZ mg) (FC : FunC K "_law_names" "_law_names" s__law_names f fd c) {g__law_draw : GFn} {l__law_draw : Nat} (c__law_draw : Callee P w K mg base T "_law_draw" l__law_draw p__law_draw g__law_draw) (hC__law_draw : l__law_draw ≤ k) :
    FnOk P w K mg base (L2.CX P w) (k + 1) f fd p__law_names (spG K T p__law_names.length (runF n__law_names (f__law_names g__law_draw))) := by
  refine fn_C FC sc__law_names fun A outer s H E hr => ?_
  have F := bodyX_fam (P := P) (w := w) (K := K) (mg := mg) (base := base) (outer := outer) (H := H) (E := E) hr sc__law_names.nd
  have A : At (bodyX P w K mg base n__law_names "_law_names" s__law_names f c A outer s H E) P w mg base k (WE0 E) := ⟨fun _ => rfl, fun _ => rfl, fun _ => rfl, fun _ => rfl, fun _ => hr, bodyX_takes⟩
  have hp := bodyX_passes (P := P) (w := w) (K := K) (mg := mg) (base := base) (N := n__law_names) (qual := "_law_names") (st := s__law_names) (f := f) (c := c) (A := ‹Around›) (outer := outer) (s := s) (H := H) (E := E)
  exact (dss_cons (ds_set F 3 de_str)
    (dss_cons (ds_set F 4 (de_own da_nil))
    (dss_cons (ds_for F (di_range1 (A.none B.z_range) (da_cons (de_var F 1) da_nil)) (dg_name F 5) (dss_cons (ds_set F 6 (de_mth F PySem.F.plainAttrs_str PySem.F.slot_str_join PySem.F.type_str_join (mtd_join F) de_str (da_cons (de_lcW F mkok_lst mklen_lst [("j", 7)] (di_range1 (A.none B.z_range) (da_cons (de_var F 2) da_nil)) (dg_name (F.blk _) 7) dts_nil (de_ix (F.blk _) (de_var (F.blk _) 3) (de_callC (F.blk _) (A.blk _) c__law_draw hC__law_draw (da_cons (de_var (F.blk _) 0) (da_cons de_int da_nil)))) (fun _ => blkOk_by (by first | (show blkC _ (defScope s__law_names) _ _ = true; decide +kernel) | (show blkC _ (relS _ (defScope s__law_names)) _ _ = true; decide +kernel) | (show blkC _ (relS _ (relS _ (defScope s__law_names))) _ _ = true; decide +kernel)))) da_nil)))
    (dss_cons (ds_for F (di_range1 (A.none B.z_range) (da_cons de_int da_nil)) (dg_name F 7) (dss_cons (ds_if (dt_cmp (opd_notIn F) (de_var F 6) (de_var F 4)) (dss_one ds_break) dss_nil)
    (dss_one (ds_set F 6 (de_op (opd_plus F) de_str (de_callTy (cd_strI) (A.none B.z_str) rfl (da_cons (de_var F 7) da_nil)))))) hp)
    (dss_one (ds_expr (de_mth F PySem.F.plainAttrs_list PySem.F.slot_list_append PySem.F.type_list_append (mtd_append) (de_var F 4) (da_cons (de_var F 6) da_nil)))))) hp)
    (dss_one (ds_ret (de_frz (de_var F 4)))))))
theorem d__law_land {f c : Addr} {fd : FuncData} {k : Nat} (B : BZ mg) (FC : FunC K "_law_land" "_law_land" s__law_land f fd c) {g__law_draw : GFn} {g__law_names : GFn} {g__law_pick : GFn} {g__law_some : GFn} {l__law_draw l__law_names l__law_pick l__law_some : Nat} (c__law_draw : Callee P w K mg base T "_law_draw" l__law_draw p__law_draw g__law_draw) (c__law_names : Callee P w K mg base T "_law_names" l__law_names p__law_names g__law_names) (c__law_pick : Callee P w K mg base T "_law_pick" l__law_pick p__law_pick g__law_pick) (c__law_some : Callee P w K mg base T "_law_some" l__law_some p__law_some g__law_some) (hC__law_draw : l__law_draw ≤ k) (hC__law_names : l__law_names ≤ k) (hC__law_pick : l__law_pick ≤ k) (hC__law_some : l__law_some ≤ k) :
    FnOk P w K mg base (L2.CX P w) (k + 1) f fd p__law_land (spG K T p__law_land.length (runF n__law_land (f__law_land g__law_draw g__law_names g__law_pick g__law_some))) := by
  refine fn_C FC sc__law_land fun A outer s H E hr => ?_
  have F := bodyX_fam (P := P) (w := w) (K := K) (mg := mg) (base := base) (outer := outer) (H := H) (E := E) hr sc__law_land.nd
  have A : At (bodyX P w K mg base n__law_land "_law_land" s__law_land f c A outer s H E) P w mg base k (WE0 E) := ⟨fun _ => rfl, fun _ => rfl, fun _ => rfl, fun _ => rfl, fun _ => hr, bodyX_takes⟩
  have hp := bodyX_passes (P := P) (w := w) (K := K) (mg := mg) (base := base) (N := n__law_land) (qual := "_law_land") (st := s__law_land) (f := f) (c := c) (A := ‹Around›) (outer := outer) (s := s) (H := H) (E := E)
  exact (dss_cons (ds_set F 3 (de_op (opd_plus F) de_int (de_callC F A c__law_draw hC__law_draw (da_cons (de_var F 0) (da_cons (de_var F 1) da_nil)))))
    (dss_cons (ds_set F 4 (de_callC F A c__law_names hC__law_names (da_cons (de_var F 0) (da_cons (de_var F 3) (da_cons (de_callC F A c__law_pick hC__law_pick (da_cons (de_var F 0) (da_cons (de_lst (da_cons de_int (da_cons de_int (da_cons de_int da_nil)))) da_nil))) da_nil)))))
    (dss_cons (ds_set F 5 (de_own da_nil))
    (dss_cons (ds_for F (di_range2 (A.none B.z_range) (da_cons de_int (da_cons (de_var F 3) da_nil))) (dg_name F 6) (dss_one (ds_expr (de_mth F PySem.F.plainAttrs_list PySem.F.slot_list_append PySem.F.type_list_append (mtd_append) (de_var F 5) (da_cons (de_tup (da_cons (de_ix F (de_var F 4) (de_callC F A c__law_draw hC__law_draw (da_cons (de_var F 0) (da_cons (de_var F 6) da_nil)))) (da_cons (de_ix F (de_var F 4) (de_var F 6)) da_nil))) da_nil)))) hp)
    (dss_cons (ds_if (dt_cmp (opd_gt) (de_var F 3) de_int) (dss_one (ds_for F (di_range1 (A.none B.z_range) (da_cons (de_callC F A c__law_draw hC__law_draw (da_cons (de_var F 0) (da_cons (de_op (opd_plus F) (de_var F 2) de_int) da_nil))) da_nil)) (dg_name F 6) (dss_one (ds_expr (de_mth F PySem.F.plainAttrs_list PySem.F.slot_list_append PySem.F.type_list_append (mtd_append) (de_var F 5) (da_cons (de_if (dt_cmp (opd_eq F) (de_callC F A c__law_draw hC__law_draw (da_cons (de_var F 0) (da_cons de_int da_nil))) de_int) (de_callC F A c__law_pick hC__law_pick (da_cons (de_var F 0) (da_cons (de_var F 5) da_nil))) (de_callTy (cd_tuple F) (A.none B.z_tuple) rfl (da_cons (de_callC F A c__law_some hC__law_some (da_cons (de_var F 0) (da_cons (de_var F 4) (da_cons de_int da_nil)))) da_nil))) da_nil)))) hp)) dss_nil)
    (dss_cons (ds_set F 7 (de_callC F A c__law_names hC__law_names (da_cons (de_var F 0) (da_cons (de_callB (cd_len F) (A.none B.z_len) PySem.boot_len (da_cons (de_var F 5) da_nil)) (da_cons (de_callC F A c__law_pick hC__law_pick (da_cons (de_var F 0) (da_cons (de_lst (da_cons de_int (da_cons de_int (da_cons de_int da_nil)))) da_nil))) da_nil)))))
    (dss_cons (ds_set F 8 (de_own da_nil))
    (dss_cons (ds_for F (di_seq F (de_callC F A c__law_some hC__law_some (da_cons (de_var F 0) (da_cons (de_var F 5) (da_cons (de_callB (cd_len F) (A.none B.z_len) PySem.boot_len (da_cons (de_var F 5) da_nil)) da_nil))))) (dg_name F 9) (dss_one (ds_expr (de_mth F PySem.F.plainAttrs_list PySem.F.slot_list_append PySem.F.type_list_append (mtd_append) (de_var F 8) (da_cons (de_op (opd_plus F) (de_tup (da_cons (de_ix F (de_var F 7) (de_callB (cd_len F) (A.none B.z_len) PySem.boot_len (da_cons (de_var F 8) da_nil))) da_nil)) (de_if (dt_cmp (opd_eq F) (de_callC F A c__law_draw hC__law_draw (da_cons (de_var F 0) (da_cons de_int da_nil))) de_int) (de_var F 9) (de_tup (da_cons (de_ix F (de_var F 9) de_int) (da_cons (de_ix F (de_var F 9) de_int) da_nil))))) da_nil)))) hp)
    (dss_one (ds_ret (de_tup (da_cons (de_callTy (cd_tuple F) (A.none B.z_tuple) rfl (da_cons (de_callC F A c__law_some hC__law_some (da_cons (de_var F 0) (da_cons (de_var F 4) (da_cons (de_var F 3) da_nil)))) da_nil)) (da_cons (de_callTy (cd_tuple F) (A.none B.z_tuple) rfl (da_cons (de_var F 8) da_nil)) da_nil)))))))))))))
theorem d__law_ends {f c : Addr} {fd : FuncData} {k : Nat} (B : BZ mg) (FC : FunC K "_law_ends" "_law_ends" s__law_ends f fd c)   :
    FnOk P w K mg base (L2.CX P w) (k + 1) f fd p__law_ends (spG K T p__law_ends.length (runF n__law_ends (f__law_ends ))) := by
  refine fn_C FC sc__law_ends fun A outer s H E hr => ?_
  have F := bodyX_fam (P := P) (w := w) (K := K) (mg := mg) (base := base) (outer := outer) (H := H) (E := E) hr sc__law_ends.nd
  have A : At (bodyX P w K mg base n__law_ends "_law_ends" s__law_ends f c A outer s H E) P w mg base k (WE0 E) := ⟨fun _ => rfl, fun _ => rfl, fun _ => rfl, fun _ => rfl, fun _ => hr, bodyX_takes⟩
  have hp := bodyX_passes (P := P) (w := w) (K := K) (mg := mg) (base := base) (N := n__law_ends) (qual := "_law_ends") (st := s__law_ends) (f := f) (c := c) (A := ‹Around›) (outer := outer) (s := s) (H := H) (E := E)
  exact (dss_one (ds_ret (de_lcW F mkok_lst mklen_lst [("road", 1)] (di_seq F (de_ix F (de_var F 0) de_int)) (dg_name (F.blk _) 1) dts_nil (de_tup (da_cons (de_idxT (F.blk _) (de_ix (F.blk _) (de_var (F.blk _) 0) de_int) (de_ix (F.blk _) (de_var (F.blk _) 1) de_int)) (da_cons (de_idxT (F.blk _) (de_ix (F.blk _) (de_var (F.blk _) 0) de_int) (de_ix (F.blk _) (de_var (F.blk _) 1) de_int)) da_nil))) (fun _ => blkOk_by (by first | (show blkC _ (defScope s__law_ends) _ _ = true; decide +kernel) | (show blkC _ (relS _ (defScope s__law_ends)) _ _ = true; decide +kernel) | (show blkC _ (relS _ (relS _ (defScope s__law_ends))) _ _ = true; decide +kernel))))))
theorem d__law_labels {f c : Addr} {fd : FuncData} {k : Nat} (B : BZ mg) (FC : FunC K "_law_labels" "_law_labels" s__law_labels f fd c)   :
    FnOk P w K mg base (L2.CX P w) (k + 1) f fd p__law_labels (spG K T p__law_labels.length (runF n__law_labels (f__law_labels ))) := by
  refine fn_C FC sc__law_labels fun A outer s H E hr => ?_
  have F := bodyX_fam (P := P) (w := w) (K := K) (mg := mg) (base := base) (outer := outer) (H := H) (E := E) hr sc__law_labels.nd
  have A : At (bodyX P w K mg base n__law_labels "_law_labels" s__law_labels f c A outer s H E) P w mg base k (WE0 E) := ⟨fun _ => rfl, fun _ => rfl, fun _ => rfl, fun _ => rfl, fun _ => hr, bodyX_takes⟩
  have hp := bodyX_passes (P := P) (w := w) (K := K) (mg := mg) (base := base) (N := n__law_labels) (qual := "_law_labels") (st := s__law_labels) (f := f) (c := c) (A := ‹Around›) (outer := outer) (s := s) (H := H) (E := E)
  exact (dss_cons (ds_set F 2 (de_listRg F (A.none B.z_list) (A.none B.z_range) (de_var F 0)))
    (dss_cons (ds_for F (di_seq F (de_var F 1)) (dg_tup F 2 (dgs_cons (dg_name F 3) (dgs_cons (dg_name F 4) dgs_nil))) (dss_cons (ds_asg (dg_tup F 2 (dgs_cons (dg_name F 5) (dgs_cons (dg_name F 6) dgs_nil))) (de_tup (da_cons (de_ix F (de_var F 2) (de_var F 4)) (da_cons (de_ix F (de_var F 2) (de_var F 3)) da_nil))))
    (dss_one (by first | exact (ds_setLcW F mkok_lst mklen_lst 2 [("k", 7)] (di_seq F (de_var F 2)) (dg_name (F.blk _) 7) dts_nil (de_if (dt_cmp (opd_eq (F.blk _)) (de_var (F.blk _) 7) (de_var (F.blk _) 5)) (de_var (F.blk _) 6) (de_var (F.blk _) 7)) (fun _ => blkOk_by (by first | (show blkC _ (defScope s__law_labels) _ _ = true; decide +kernel) | (show blkC _ (relS _ (defScope s__law_labels)) _ _ = true; decide +kernel) | (show blkC _ (relS _ (relS _ (defScope s__law_labels))) _ _ = true; decide +kernel)))) | exact ds_set F 2 (de_lcW F mkok_lst mklen_lst [("k", 7)] (di_seq F (de_var F 2)) (dg_name (F.blk _) 7) dts_nil (de_if (dt_cmp (opd_eq (F.blk _)) (de_var (F.blk _) 7) (de_var (F.blk _) 5)) (de_var (F.blk _) 6) (de_var (F.blk _) 7)) (fun _ => blkOk_by (by first | (show blkC _ (defScope s__law_labels) _ _ = true; decide +kernel) | (show blkC _ (relS _ (defScope s__law_labels)) _ _ = true; decide +kernel) | (show blkC _ (relS _ (relS _ (defScope s__law_labels))) _ _ = true; decide +kernel))))))) hp)
    (dss_one (ds_ret (de_lcW F mkok_lst mklen_lst [("k", 7)] (di_seq F (de_var F 2)) (dg_name (F.blk _) 7) dts_nil (de_mth (F.blk _) PySem.F.plainAttrs_list PySem.F.slot_list_index PySem.F.type_list_index (mtd_indexL (F.blk _)) (de_var (F.blk _) 2) (da_cons (de_var (F.blk _) 7) da_nil)) (fun _ => blkOk_by (by first | (show blkC _ (defScope s__law_labels) _ _ = true; decide +kernel) | (show blkC _ (relS _ (defScope s__law_labels)) _ _ = true; decide +kernel) | (show blkC _ (relS _ (relS _ (defScope s__law_labels))) _ _ = true; decide +kernel))))))))
theorem d__law_chosen {f c : Addr} {fd : FuncData} {k : Nat} (B : BZ mg) (FC : FunC K "_law_chosen" "_law_chosen" s__law_chosen f fd c)   :
    FnOk P w K mg base (L2.CX P w) (k + 1) f fd p__law_chosen (spG K T p__law_chosen.length (runF n__law_chosen (f__law_chosen ))) := by
  refine fn_C FC sc__law_chosen fun A outer s H E hr => ?_
  have F := bodyX_fam (P := P) (w := w) (K := K) (mg := mg) (base := base) (outer := outer) (H := H) (E := E) hr sc__law_chosen.nd
  have A : At (bodyX P w K mg base n__law_chosen "_law_chosen" s__law_chosen f c A outer s H E) P w mg base k (WE0 E) := ⟨fun _ => rfl, fun _ => rfl, fun _ => rfl, fun _ => rfl, fun _ => hr, bodyX_takes⟩
  have hp := bodyX_passes (P := P) (w := w) (K := K) (mg := mg) (base := base) (N := n__law_chosen) (qual := "_law_chosen") (st := s__law_chosen) (f := f) (c := c) (A := ‹Around›) (outer := outer) (s := s) (H := H) (E := E)
  exact (dss_cons (ds_set F 2 (de_lst (da_cons (de_lst da_nil) da_nil)))
    (dss_cons (ds_for F (di_seq F (de_var F 0)) (dg_name F 3) (dss_one (ds_set F 2 (de_op (opd_plus F) (de_var F 2) (de_lcW F mkok_lst mklen_lst [("one", 4)] (di_seq F (de_var F 2)) (dg_name (F.blk _) 4) (dts_one (dt_cmp (opd_lt) (de_callB (cd_len (F.blk _)) ((A.blk _).none B.z_len) PySem.boot_len (da_cons (de_var (F.blk _) 4) da_nil)) (de_var (F.blk _) 1))) (de_op (opd_plus (F.blk _)) (de_var (F.blk _) 4) (de_lst (da_cons (de_var (F.blk _) 3) da_nil))) (fun _ => blkOk_by (by first | (show blkC _ (defScope s__law_chosen) _ _ = true; decide +kernel) | (show blkC _ (relS _ (defScope s__law_chosen)) _ _ = true; decide +kernel) | (show blkC _ (relS _ (relS _ (defScope s__law_chosen))) _ _ = true; decide +kernel))))))) hp)
    (dss_one (ds_ret (de_lcW F mkok_lst mklen_lst [("one", 4)] (di_seq F (de_var F 2)) (dg_name (F.blk _) 4) (dts_one (dt_cmp (opd_eq (F.blk _)) (de_callB (cd_len (F.blk _)) ((A.blk _).none B.z_len) PySem.boot_len (da_cons (de_var (F.blk _) 4) da_nil)) (de_var (F.blk _) 1))) (de_var (F.blk _) 4) (fun _ => blkOk_by (by first | (show blkC _ (defScope s__law_chosen) _ _ = true; decide +kernel) | (show blkC _ (relS _ (defScope s__law_chosen)) _ _ = true; decide +kernel) | (show blkC _ (relS _ (relS _ (defScope s__law_chosen))) _ _ = true; decide +kernel))))))))
theorem d__law_all_trees {f c : Addr} {fd : FuncData} {k : Nat} (B : BZ mg) (FC : FunC K "_law_all_trees" "_law_all_trees" s__law_all_trees f fd c) {g__law_chosen : GFn} {g__law_ends : GFn} {g__law_labels : GFn} {l__law_chosen l__law_ends l__law_labels : Nat} (c__law_chosen : Callee P w K mg base T "_law_chosen" l__law_chosen p__law_chosen g__law_chosen) (c__law_ends : Callee P w K mg base T "_law_ends" l__law_ends p__law_ends g__law_ends) (c__law_labels : Callee P w K mg base T "_law_labels" l__law_labels p__law_labels g__law_labels) (hC__law_chosen : l__law_chosen ≤ k) (hC__law_ends : l__law_ends ≤ k) (hC__law_labels : l__law_labels ≤ k) :
    FnOk P w K mg base (L2.CX P w) (k + 1) f fd p__law_all_trees (spG K T p__law_all_trees.length (runF n__law_all_trees (f__law_all_trees g__law_chosen g__law_ends g__law_labels))) := by
  refine fn_C FC sc__law_all_trees fun A outer s H E hr => ?_
  have F := bodyX_fam (P := P) (w := w) (K := K) (mg := mg) (base := base) (outer := outer) (H := H) (E := E) hr sc__law_all_trees.nd
  have A : At (bodyX P w K mg base n__law_all_trees "_law_all_trees" s__law_all_trees f c A outer s H E) P w mg base k (WE0 E) := ⟨fun _ => rfl, fun _ => rfl, fun _ => rfl, fun _ => rfl, fun _ => hr, bodyX_takes⟩
  have hp := bodyX_passes (P := P) (w := w) (K := K) (mg := mg) (base := base) (N := n__law_all_trees) (qual := "_law_all_trees") (st := s__law_all_trees) (f := f) (c := c) (A := ‹Around›) (outer := outer) (s := s) (H := H) (E := E)
  exact (dss_cons (ds_asg (dg_tup F 2 (dgs_cons (dg_name F 1) (dgs_cons (dg_name F 2) dgs_nil))) (de_tup (da_cons (de_callC F A c__law_ends hC__law_ends (da_cons (de_var F 0) da_nil)) (da_cons (de_callB (cd_len F) (A.none B.z_len) PySem.boot_len (da_cons (de_ix F (de_var F 0) de_int) da_nil)) da_nil))))
    (dss_cons (ds_set F 3 (de_own da_nil))
    (dss_cons (ds_for F (di_seq F (de_callC F A c__law_chosen hC__law_chosen (da_cons (de_listRg F (A.none B.z_list) (A.none B.z_range) (de_callB (cd_len F) (A.none B.z_len) PySem.boot_len (da_cons (de_var F 1) da_nil))) (da_cons (de_op (opd_sub) (de_var F 2) de_int) da_nil)))) (dg_name F 4) (dss_one (ds_if (dt_cmp (opd_eq F) (de_callB (cd_max1 F) (A.none B.z_max) rfl (da_cons (de_callC F A c__law_labels hC__law_labels (da_cons (de_var F 2) (da_cons (de_lcW F mkok_lst mklen_lst [("k", 5)] (di_seq F (de_var F 4)) (dg_name (F.blk _) 5) dts_nil (de_ix (F.blk _) (de_var (F.blk _) 1) (de_var (F.blk _) 5)) (fun _ => blkOk_by (by first | (show blkC _ (defScope s__law_all_trees) _ _ = true; decide +kernel) | (show blkC _ (relS _ (defScope s__law_all_trees)) _ _ = true; decide +kernel) | (show blkC _ (relS _ (relS _ (defScope s__law_all_trees))) _ _ = true; decide +kernel)))) da_nil))) da_nil)) de_int) (dss_one (ds_expr (de_mth F PySem.F.plainAttrs_list PySem.F.slot_list_append PySem.F.type_list_append (mtd_append) (de_var F 3) (da_cons (de_var F 4) da_nil)))) dss_nil)) hp)
    (dss_one (ds_ret (de_frz (de_var F 3)))))))
theorem d__law_sides {f c : Addr} {fd : FuncData} {k : Nat} (B : BZ mg) (FC : FunC K "_law_sides" "_law_sides" s__law_sides f fd c) {g__law_ends : GFn} {g__law_labels : GFn} {l__law_ends l__law_labels : Nat} (c__law_ends : Callee P w K mg base T "_law_ends" l__law_ends p__law_ends g__law_ends) (c__law_labels : Callee P w K mg base T "_law_labels" l__law_labels p__law_labels g__law_labels) (hC__law_ends : l__law_ends ≤ k) (hC__law_labels : l__law_labels ≤ k) :
    FnOk P w K mg base (L2.CX P w) (k + 1) f fd p__law_sides (spG K T p__law_sides.length (runF n__law_sides (f__law_sides g__law_ends g__law_labels))) := by
  refine fn_C FC sc__law_sides fun A outer s H E hr => ?_
  have F := bodyX_fam (P := P) (w := w) (K := K) (mg := mg) (base := base) (outer := outer) (H := H) (E := E) hr sc__law_sides.nd
  have A : At (bodyX P w K mg base n__law_sides "_law_sides" s__law_sides f c A outer s H E) P w mg base k (WE0 E) := ⟨fun _ => rfl, fun _ => rfl, fun _ => rfl, fun _ => rfl, fun _ => hr, bodyX_takes⟩
  have hp := bodyX_passes (P := P) (w := w) (K := K) (mg := mg) (base := base) (N := n__law_sides) (qual := "_law_sides") (st := s__law_sides) (f := f) (c := c) (A := ‹Around›) (outer := outer) (s := s) (H := H) (E := E)
  exact (dss_cons (ds_row 2 (by decide) (dg_tup F 2 (dgs_cons (dg_name F 2) (dgs_cons (dg_name F 3) dgs_nil))) (da_cons (de_callC F A c__law_ends hC__law_ends (da_cons (de_var F 0) da_nil)) (da_cons de_dnewK da_nil)))
    (dss_cons (ds_for F (di_seq F (de_var F 1)) (dg_name F 4) (dss_one (ds_setK F (de_var F 3) (de_var F 4) (de_callC F A c__law_labels hC__law_labels (da_cons (de_callB (cd_len F) (A.none B.z_len) PySem.boot_len (da_cons (de_ix F (de_var F 0) de_int) da_nil)) (da_cons (de_lcW F mkok_lst mklen_lst [("j", 5)] (di_seq F (de_var F 1)) (dg_name (F.blk _) 5) (dts_one (dt_cmp (opd_ne (F.blk _)) (de_var (F.blk _) 5) (de_var (F.blk _) 4))) (de_ix (F.blk _) (de_var (F.blk _) 2) (de_var (F.blk _) 5)) (fun _ => blkOk_by (by first | (show blkC _ (defScope s__law_sides) _ _ = true; decide +kernel) | (show blkC _ (relS _ (defScope s__law_sides)) _ _ = true; decide +kernel) | (show blkC _ (relS _ (relS _ (defScope s__law_sides))) _ _ = true; decide +kernel)))) da_nil))))) hp)
    (dss_one (ds_ret (de_frzK (de_var F 3))))))
theorem d__law_between {f c : Addr} {fd : FuncData} {k : Nat} (B : BZ mg) (FC : FunC K "_law_between" "_law_between" s__law_between f fd c) {g__law_ends : GFn} {g__law_sides : GFn} {l__law_ends l__law_sides : Nat} (c__law_ends : Callee P w K mg base T "_law_ends" l__law_ends p__law_ends g__law_ends) (c__law_sides : Callee P w K mg base T "_law_sides" l__law_sides p__law_sides g__law_sides) (hC__law_ends : l__law_ends ≤ k) (hC__law_sides : l__law_sides ≤ k) :
    FnOk P w K mg base (L2.CX P w) (k + 1) f fd p__law_between (spG K T p__law_between.length (runF n__law_between (f__law_between g__law_ends g__law_sides))) := by
  refine fn_C FC sc__law_between fun A outer s H E hr => ?_
  have F := bodyX_fam (P := P) (w := w) (K := K) (mg := mg) (base := base) (outer := outer) (H := H) (E := E) hr sc__law_between.nd
  have A : At (bodyX P w K mg base n__law_between "_law_between" s__law_between f c A outer s H E) P w mg base k (WE0 E) := ⟨fun _ => rfl, fun _ => rfl, fun _ => rfl, fun _ => rfl, fun _ => hr, bodyX_takes⟩
  have hp := bodyX_passes (P := P) (w := w) (K := K) (mg := mg) (base := base) (N := n__law_between) (qual := "_law_between") (st := s__law_between) (f := f) (c := c) (A := ‹Around›) (outer := outer) (s := s) (H := H) (E := E)
  exact (dss_cons (ds_row 2 (by decide) (dg_tup F 2 (dgs_cons (dg_name F 2) (dgs_cons (dg_name F 3) dgs_nil))) (da_cons (de_callC F A c__law_ends hC__law_ends (da_cons (de_var F 0) da_nil)) (da_cons de_dnewK da_nil)))
    (dss_cons (ds_set F 4 (de_callC F A c__law_sides hC__law_sides (da_cons (de_var F 0) (da_cons (de_var F 1) da_nil))))
    (dss_cons (ds_for F (di_seq F (de_var F 1)) (dg_name F 5) (dss_one (ds_setK F (de_var F 3) (de_var F 5) (de_lcW F mkok_lst mklen_lst [("j", 6)] (di_range1 (A.none B.z_range) (da_cons (de_callB (cd_len F) (A.none B.z_len) PySem.boot_len (da_cons (de_var F 2) da_nil)) da_nil)) (dg_name (F.blk _) 6) (dts_one (dt_cmp (opd_ne (F.blk _)) (de_ix (F.blk _) (de_ix (F.blk _) (de_var (F.blk _) 4) (de_var (F.blk _) 5)) (de_ix (F.blk _) (de_ix (F.blk _) (de_var (F.blk _) 2) (de_var (F.blk _) 6)) de_int)) (de_ix (F.blk _) (de_ix (F.blk _) (de_var (F.blk _) 4) (de_var (F.blk _) 5)) (de_ix (F.blk _) (de_ix (F.blk _) (de_var (F.blk _) 2) (de_var (F.blk _) 6)) de_int)))) (de_var (F.blk _) 6) (fun _ => blkOk_by (by first | (show blkC _ (defScope s__law_between) _ _ = true; decide +kernel) | (show blkC _ (relS _ (defScope s__law_between)) _ _ = true; decide +kernel) | (show blkC _ (relS _ (relS _ (defScope s__law_between))) _ _ = true; decide +kernel)))))) hp)
    (dss_one (ds_ret (de_frzK (de_var F 3)))))))
theorem d__law_named {f c : Addr} {fd : FuncData} {k : Nat} (B : BZ mg) (FC : FunC K "_law_named" "_law_named" s__law_named f fd c)   :
    FnOk P w K mg base (L2.CX P w) (k + 1) f fd p__law_named (spG K T p__law_named.length (runF n__law_named (f__law_named ))) := by
  refine fn_C FC sc__law_named fun A outer s H E hr => ?_
  have F := bodyX_fam (P := P) (w := w) (K := K) (mg := mg) (base := base) (outer := outer) (H := H) (E := E) hr sc__law_named.nd
  have A : At (bodyX P w K mg base n__law_named "_law_named" s__law_named f c A outer s H E) P w mg base k (WE0 E) := ⟨fun _ => rfl, fun _ => rfl, fun _ => rfl, fun _ => rfl, fun _ => hr, bodyX_takes⟩
  have hp := bodyX_passes (P := P) (w := w) (K := K) (mg := mg) (base := base) (N := n__law_named) (qual := "_law_named") (st := s__law_named) (f := f) (c := c) (A := ‹Around›) (outer := outer) (s := s) (H := H) (E := E)
  exact (dss_one (ds_ret (de_callTy (cd_tuple F) (A.none B.z_tuple) rfl (da_cons (de_lcW F mkok_lst mklen_lst [("k", 2)] (di_seq F (de_var F 1)) (dg_name (F.blk _) 2) dts_nil (de_ix (F.blk _) (de_ix (F.blk _) (de_ix (F.blk _) (de_var (F.blk _) 0) de_int) (de_var (F.blk _) 2)) de_int) (fun _ => blkOk_by (by first | (show blkC _ (defScope s__law_named) _ _ = true; decide +kernel) | (show blkC _ (relS _ (defScope s__law_named)) _ _ = true; decide +kernel) | (show blkC _ (relS _ (relS _ (defScope s__law_named))) _ _ = true; decide +kernel)))) da_nil))))
theorem d__law_free_sets {f c : Addr} {fd : FuncData} {k : Nat} (B : BZ mg) (FC : FunC K "_law_free_sets" "_law_free_sets" s__law_free_sets f fd c) {g__law_ends : GFn} {g__law_labels : GFn} {l__law_ends l__law_labels : Nat} (c__law_ends : Callee P w K mg base T "_law_ends" l__law_ends p__law_ends g__law_ends) (c__law_labels : Callee P w K mg base T "_law_labels" l__law_labels p__law_labels g__law_labels) (hC__law_ends : l__law_ends ≤ k) (hC__law_labels : l__law_labels ≤ k) :
    FnOk P w K mg base (L2.CX P w) (k + 1) f fd p__law_free_sets (spG K T p__law_free_sets.length (runF n__law_free_sets (f__law_free_sets g__law_ends g__law_labels))) := by
  refine fn_C FC sc__law_free_sets fun A outer s H E hr => ?_
  have F := bodyX_fam (P := P) (w := w) (K := K) (mg := mg) (base := base) (outer := outer) (H := H) (E := E) hr sc__law_free_sets.nd
  have A : At (bodyX P w K mg base n__law_free_sets "_law_free_sets" s__law_free_sets f c A outer s H E) P w mg base k (WE0 E) := ⟨fun _ => rfl, fun _ => rfl, fun _ => rfl, fun _ => rfl, fun _ => hr, bodyX_takes⟩
  have hp := bodyX_passes (P := P) (w := w) (K := K) (mg := mg) (base := base) (N := n__law_free_sets) (qual := "_law_free_sets") (st := s__law_free_sets) (f := f) (c := c) (A := ‹Around›) (outer := outer) (s := s) (H := H) (E := E)
  exact (dss_cons (ds_asg (dg_tup F 2 (dgs_cons (dg_name F 1) (dgs_cons (dg_name F 2) dgs_nil))) (de_tup (da_cons (de_callC F A c__law_ends hC__law_ends (da_cons (de_var F 0) da_nil)) (da_cons (de_callB (cd_len F) (A.none B.z_len) PySem.boot_len (da_cons (de_ix F (de_var F 0) de_int) da_nil)) da_nil))))
    (dss_cons (ds_set F 3 (de_lst (da_cons (de_lst da_nil) da_nil)))
    (dss_cons (ds_for F (di_range1 (A.none B.z_range) (da_cons (de_callB (cd_len F) (A.none B.z_len) PySem.boot_len (da_cons (de_var F 1) da_nil)) da_nil)) (dg_name F 4) (dss_one (ds_set F 3 (de_op (opd_plus F) (de_var F 3) (de_lcW F mkok_lst mklen_lst [("lot", 6)] (di_seq F (de_var F 3)) (dg_name (F.blk _) 6) dts_nil (de_op (opd_plus (F.blk _)) (de_var (F.blk _) 6) (de_lst (da_cons (de_var (F.blk _) 4) da_nil))) (fun _ => blkOk_by (by first | (show blkC _ (defScope s__law_free_sets) _ _ = true; decide +kernel) | (show blkC _ (relS _ (defScope s__law_free_sets)) _ _ = true; decide +kernel) | (show blkC _ (relS _ (relS _ (defScope s__law_free_sets))) _ _ = true; decide +kernel))))))) hp)
    (dss_cons (ds_set F 5 (de_own da_nil))
    (dss_cons (ds_for F (di_seq F (de_var F 3)) (dg_name F 6) (dss_cons (ds_set F 7 (de_callC F A c__law_labels hC__law_labels (da_cons (de_var F 2) (da_cons (de_lcW F mkok_lst mklen_lst [("k", 4)] (di_seq F (de_var F 6)) (dg_name (F.blk _) 4) dts_nil (de_ix (F.blk _) (de_var (F.blk _) 1) (de_var (F.blk _) 4)) (fun _ => blkOk_by (by first | (show blkC _ (defScope s__law_free_sets) _ _ = true; decide +kernel) | (show blkC _ (relS _ (defScope s__law_free_sets)) _ _ = true; decide +kernel) | (show blkC _ (relS _ (relS _ (defScope s__law_free_sets))) _ _ = true; decide +kernel)))) da_nil))))
    (dss_one (ds_if (dt_cmp (opd_eq F) (de_callB (cd_len F) (A.none B.z_len) PySem.boot_len (da_cons (de_var F 6) da_nil)) (de_op (opd_sub) (de_var F 2) (de_callB (cd_len F) (A.none B.z_len) PySem.boot_len (da_cons (de_callTy (cd_dictP F) (A.none B.z_dict) rfl (da_cons (de_lcW F mkok_lst mklen_lst [("one", 8)] (di_seq F (de_var F 7)) (dg_name (F.blk _) 8) dts_nil (de_tup (da_cons (de_var (F.blk _) 8) (da_cons de_int da_nil))) (fun _ => blkOk_by (by first | (show blkC _ (defScope s__law_free_sets) _ _ = true; decide +kernel) | (show blkC _ (relS _ (defScope s__law_free_sets)) _ _ = true; decide +kernel) | (show blkC _ (relS _ (relS _ (defScope s__law_free_sets))) _ _ = true; decide +kernel)))) da_nil)) da_nil)))) (dss_one (ds_expr (de_mth F PySem.F.plainAttrs_list PySem.F.slot_list_append PySem.F.type_list_append (mtd_append) (de_var F 5) (da_cons (de_var F 6) da_nil)))) dss_nil))) hp)
    (dss_one (ds_ret (de_frz (de_var F 5)))))))))
theorem d__law_tree_over {f c : Addr} {fd : FuncData} {k : Nat} (B : BZ mg) (FC : FunC K "_law_tree_over" "_law_tree_over" s__law_tree_over f fd c) {g__law_ends : GFn} {g__law_labels : GFn} {l__law_ends l__law_labels : Nat} (c__law_ends : Callee P w K mg base T "_law_ends" l__law_ends p__law_ends g__law_ends) (c__law_labels : Callee P w K mg base T "_law_labels" l__law_labels p__law_labels g__law_labels) (hC__law_ends : l__law_ends ≤ k) (hC__law_labels : l__law_labels ≤ k) :
    FnOk P w K mg base (L2.CX P w) (k + 1) f fd p__law_tree_over (spG K T p__law_tree_over.length (runF n__law_tree_over (f__law_tree_over g__law_ends g__law_labels))) := by
  refine fn_C FC sc__law_tree_over fun A outer s H E hr => ?_
  have F := bodyX_fam (P := P) (w := w) (K := K) (mg := mg) (base := base) (outer := outer) (H := H) (E := E) hr sc__law_tree_over.nd
  have A : At (bodyX P w K mg base n__law_tree_over "_law_tree_over" s__law_tree_over f c A outer s H E) P w mg base k (WE0 E) := ⟨fun _ => rfl, fun _ => rfl, fun _ => rfl, fun _ => rfl, fun _ => hr, bodyX_takes⟩
  have hp := bodyX_passes (P := P) (w := w) (K := K) (mg := mg) (base := base) (N := n__law_tree_over) (qual := "_law_tree_over") (st := s__law_tree_over) (f := f) (c := c) (A := ‹Around›) (outer := outer) (s := s) (H := H) (E := E)
  exact (dss_cons (ds_row 2 (by decide) (dg_tup F 2 (dgs_cons (dg_name F 2) (dgs_cons (dg_name F 3) dgs_nil))) (da_cons (de_callC F A c__law_ends hC__law_ends (da_cons (de_var F 0) da_nil)) (da_cons (de_callTy (cd_listO F) (A.none B.z_list) rfl (da_cons (de_var F 1) da_nil)) da_nil)))
    (dss_cons (ds_for F (di_range3 (A.none B.z_range) (da_cons (de_op (opd_sub) (de_callB (cd_len F) (A.none B.z_len) PySem.boot_len (da_cons (de_var F 2) da_nil)) de_int) (da_cons (de_neg de_int) (da_cons (de_neg de_int) da_nil)))) (dg_name F 4) (dss_cons (ds_set F 5 (de_callC F A c__law_labels hC__law_labels (da_cons (de_callB (cd_len F) (A.none B.z_len) PySem.boot_len (da_cons (de_ix F (de_var F 0) de_int) da_nil)) (da_cons (de_lcWG F mkok_lst mklen_lst [("j", 6)] (dig_seq F (de_var F 3)) (dg_name (F.blk _) 6) dts_nil (de_ix (F.blk _) (de_var (F.blk _) 2) (de_var (F.blk _) 6)) (fun _ => blkOk_by (by first | (show blkC _ (defScope s__law_tree_over) _ _ = true; decide +kernel) | (show blkC _ (relS _ (defScope s__law_tree_over)) _ _ = true; decide +kernel) | (show blkC _ (relS _ (relS _ (defScope s__law_tree_over))) _ _ = true; decide +kernel)))) da_nil))))
    (dss_one (ds_if (dt_cmp (opd_ne F) (de_ix F (de_var F 5) (de_ix F (de_ix F (de_var F 2) (de_var F 4)) de_int)) (de_ix F (de_var F 5) (de_ix F (de_ix F (de_var F 2) (de_var F 4)) de_int))) (dss_one (ds_expr (de_mth F PySem.F.plainAttrs_list PySem.F.slot_list_append PySem.F.type_list_append (mtd_append) (de_var F 3) (da_cons (de_var F 4) da_nil)))) dss_nil))) hp)
    (dss_one (ds_ret (de_callB (cd_sorted F) (A.none B.z_sorted) rfl (da_cons (de_var F 3) da_nil))))))
theorem d__law_last_ones {f c : Addr} {fd : FuncData} {k : Nat} (B : BZ mg) (FC : FunC K "_law_last_ones" "_law_last_ones" s__law_last_ones f fd c) {g__law_between : GFn} {l__law_between : Nat} (c__law_between : Callee P w K mg base T "_law_between" l__law_between p__law_between g__law_between) (hC__law_between : l__law_between ≤ k) :
    FnOk P w K mg base (L2.CX P w) (k + 1) f fd p__law_last_ones (spG K T p__law_last_ones.length (runF n__law_last_ones (f__law_last_ones g__law_between))) := by
  refine fn_C FC sc__law_last_ones fun A outer s H E hr => ?_
  have F := bodyX_fam (P := P) (w := w) (K := K) (mg := mg) (base := base) (outer := outer) (H := H) (E := E) hr sc__law_last_ones.nd
  have A : At (bodyX P w K mg base n__law_last_ones "_law_last_ones" s__law_last_ones f c A outer s H E) P w mg base k (WE0 E) := ⟨fun _ => rfl, fun _ => rfl, fun _ => rfl, fun _ => rfl, fun _ => hr, bodyX_takes⟩
  have hp := bodyX_passes (P := P) (w := w) (K := K) (mg := mg) (base := base) (N := n__law_last_ones) (qual := "_law_last_ones") (st := s__law_last_ones) (f := f) (c := c) (A := ‹Around›) (outer := outer) (s := s) (H := H) (E := E)
  exact (dss_cons (ds_set F 2 (de_callC F A c__law_between hC__law_between (da_cons (de_var F 0) (da_cons (de_var F 1) da_nil))))
    (dss_one (ds_ret (de_lcW F mkok_lst mklen_lst [("k", 3)] (di_seq F (de_var F 1)) (dg_name (F.blk _) 3) (dts_one (dt_cmp (opd_eq (F.blk _)) (de_callB (cd_max1 (F.blk _)) ((A.blk _).none B.z_max) rfl (da_cons (de_ix (F.blk _) (de_var (F.blk _) 2) (de_var (F.blk _) 3)) da_nil)) (de_var (F.blk _) 3))) (de_var (F.blk _) 3) (fun _ => blkOk_by (by first | (show blkC _ (defScope s__law_last_ones) _ _ = true; decide +kernel) | (show blkC _ (relS _ (defScope s__law_last_ones)) _ _ = true; decide +kernel) | (show blkC _ (relS _ (relS _ (defScope s__law_last_ones))) _ _ = true; decide +kernel)))))))
theorem d__law_two_to {f c : Addr} {fd : FuncData} {k : Nat} (B : BZ mg) (FC : FunC K "_law_two_to" "_law_two_to" s__law_two_to f fd c)   :
    FnOk P w K mg base (L2.CX P w) (k + 1) f fd p__law_two_to (spG K T p__law_two_to.length (runF n__law_two_to (f__law_two_to ))) := by
  refine fn_C FC sc__law_two_to fun A outer s H E hr => ?_
  have F := bodyX_fam (P := P) (w := w) (K := K) (mg := mg) (base := base) (outer := outer) (H := H) (E := E) hr sc__law_two_to.nd
  have A : At (bodyX P w K mg base n__law_two_to "_law_two_to" s__law_two_to f c A outer s H E) P w mg base k (WE0 E) := ⟨fun _ => rfl, fun _ => rfl, fun _ => rfl, fun _ => rfl, fun _ => hr, bodyX_takes⟩
  have hp := bodyX_passes (P := P) (w := w) (K := K) (mg := mg) (base := base) (N := n__law_two_to) (qual := "_law_two_to") (st := s__law_two_to) (f := f) (c := c) (A := ‹Around›) (outer := outer) (s := s) (H := H) (E := E)
  exact (dss_cons (ds_set F 1 de_int)
    (dss_cons (ds_for F (di_range1 (A.none B.z_range) (da_cons (de_var F 0) da_nil)) (dg_name F 2) (dss_one (ds_set F 1 (de_op (opd_timesA F) de_int (de_var F 1)))) hp)
    (dss_one (ds_ret (de_var F 1)))))
theorem d_law {f c : Addr} {fd : FuncData} {k : Nat} (B : BZ mg) (FC : FunC K "law" "law" s_law f fd c) {g__law_all_trees : GFn} {g__law_bag : GFn} {g__law_draw : GFn} {g__law_free_sets : GFn} {g__law_land : GFn} {g__law_last_ones : GFn} {g__law_named : GFn} {g__law_same : GFn} {g__law_tree_over : GFn} {g__law_two_to : GFn} {g_inner_level : GFn} {g_tree_over : GFn} {l__law_all_trees l__law_bag l__law_draw l__law_free_sets l__law_land l__law_last_ones l__law_named l__law_same l__law_tree_over l__law_two_to l_inner_level l_tree_over : Nat} (c__law_all_trees : Callee P w K mg base T "_law_all_trees" l__law_all_trees p__law_all_trees g__law_all_trees) (c__law_bag : Callee P w K mg base T "_law_bag" l__law_bag p__law_bag g__law_bag) (c__law_draw : Callee P w K mg base T "_law_draw" l__law_draw p__law_draw g__law_draw) (c__law_free_sets : Callee P w K mg base T "_law_free_sets" l__law_free_sets p__law_free_sets g__law_free_sets) (c__law_land : Callee P w K mg base T "_law_land" l__law_land p__law_land g__law_land) (c__law_last_ones : Callee P w K mg base T "_law_last_ones" l__law_last_ones p__law_last_ones g__law_last_ones) (c__law_named : Callee P w K mg base T "_law_named" l__law_named p__law_named g__law_named) (c__law_same : Callee P w K mg base T "_law_same" l__law_same p__law_same g__law_same) (c__law_tree_over : Callee P w K mg base T "_law_tree_over" l__law_tree_over p__law_tree_over g__law_tree_over) (c__law_two_to : Callee P w K mg base T "_law_two_to" l__law_two_to p__law_two_to g__law_two_to) (c_inner_level : Callee P w K mg base T "inner_level" l_inner_level p_inner_level g_inner_level) (c_tree_over : Callee P w K mg base T "tree_over" l_tree_over p_tree_over g_tree_over) (k_tree_over_names_land : CalleeK P w K mg base T "tree_over" l_tree_over p_tree_over ["names", "land"] [1, 0] g_tree_over) (hC__law_all_trees : l__law_all_trees ≤ k) (hC__law_bag : l__law_bag ≤ k) (hC__law_draw : l__law_draw ≤ k) (hC__law_free_sets : l__law_free_sets ≤ k) (hC__law_land : l__law_land ≤ k) (hC__law_last_ones : l__law_last_ones ≤ k) (hC__law_named : l__law_named ≤ k) (hC__law_same : l__law_same ≤ k) (hC__law_tree_over : l__law_tree_over ≤ k) (hC__law_two_to : l__law_two_to ≤ k) (hC_inner_level : l_inner_level ≤ k) (hC_tree_over : l_tree_over ≤ k) :
    FnOk P w K mg base (L2.CX P w) (k + 1) f fd p_law (spG K T p_law.length (runF n_law (f_law w g__law_all_trees g__law_bag g__law_draw g__law_free_sets g__law_land g__law_last_ones g__law_named g__law_same g__law_tree_over g__law_two_to g_inner_level g_tree_over))) := by
  refine fn_C FC sc_law fun A outer s H E hr => ?_
  have F := bodyX_fam (P := P) (w := w) (K := K) (mg := mg) (base := base) (outer := outer) (H := H) (E := E) hr sc_law.nd
  have A : At (bodyX P w K mg base n_law "law" s_law f c A outer s H E) P w mg base k (WE0 E) := ⟨fun _ => rfl, fun _ => rfl, fun _ => rfl, fun _ => rfl, fun _ => hr, bodyX_takes⟩
  have hp := bodyX_passes (P := P) (w := w) (K := K) (mg := mg) (base := base) (N := n_law) (qual := "law") (st := s_law) (f := f) (c := c) (A := ‹Around›) (outer := outer) (s := s) (H := H) (E := E)
  exact (dss_cons (ds_set F 1 (de_callC F A c__law_bag hC__law_bag (da_cons (de_var F 0) da_nil)))
    (dss_cons (ds_for F (di_range1 (A.none B.z_range) (da_cons de_int da_nil)) (dg_name F 2) (dss_cons (ds_set F 3 (de_if (dt_cmp (opd_eq F) (de_callC F A c__law_draw hC__law_draw (da_cons (de_var F 1) (da_cons de_int da_nil))) de_int) (de_callC F A c__law_land hC__law_land (da_cons (de_var F 1) (da_cons de_int (da_cons de_int da_nil)))) (de_callC F A c__law_land hC__law_land (da_cons (de_var F 1) (da_cons de_int (da_cons de_int da_nil))))))
    (dss_cons (ds_set F 4 (de_dnewT A.w))
    (dss_cons (ds_for F (di_seq F (de_callC F A c__law_free_sets hC__law_free_sets (da_cons (de_var F 3) da_nil))) (dg_name F 5) (dss_cons (ds_set F 6 (de_callC F A c__law_tree_over hC__law_tree_over (da_cons (de_var F 3) (da_cons (de_var F 5) da_nil))))
    (dss_cons (ds_set F 7 (de_callC F A c__law_named hC__law_named (da_cons (de_var F 3) (da_cons (de_var F 6) da_nil))))
    (dss_cons (ds_setT F A.w (de_var F 4) (de_var F 7) (de_op (opd_plus F) (de_get2 F A.w (de_var F 4) (de_var F 7) de_int) de_int))
    (dss_cons (ds_if (dt_cmp (opd_gt) (de_callB (cd_len F) (A.none B.z_len) PySem.boot_len (da_cons (de_lcW F mkok_lst mklen_lst [("k", 9)] (di_seq F (de_var F 6)) (dg_name (F.blk _) 9) (dts_one (DW.dt (dw_and (dt_cmp (opd_notIn (F.blk _)) (de_var (F.blk _) 9) (de_var (F.blk _) 5)) (dw_and1 (dt_cmp (opd_notIn (F.blk _)) (de_var (F.blk _) 9) (de_callC (F.blk _) (A.blk _) c__law_last_ones hC__law_last_ones (da_cons (de_var (F.blk _) 3) (da_cons (de_var (F.blk _) 6) da_nil)))))))) (de_var (F.blk _) 9) (fun _ => blkOk_by (by first | (show blkC _ (defScope s_law) _ _ = true; decide +kernel) | (show blkC _ (relS _ (defScope s_law)) _ _ = true; decide +kernel) | (show blkC _ (relS _ (relS _ (defScope s_law))) _ _ = true; decide +kernel)))) da_nil)) de_int) (dss_one (ds_ret de_bl)) dss_nil)
    (dss_one (ds_if (DW.dt (dw_and (dt_cmp (opd_eq F) (de_callC F A c__law_draw hC__law_draw (da_cons (de_var F 1) (da_cons de_int da_nil))) de_int) (dw_and1 (dt_not (dt_truth F (de_callC F A c__law_same hC__law_same (da_cons (de_callC F A c_tree_over hC_tree_over (da_cons (de_var F 3) (da_cons (de_callC F A c__law_named hC__law_named (da_cons (de_var F 3) (da_cons (de_var F 5) da_nil))) da_nil))) (da_cons (de_var F 7) da_nil)))))))) (dss_one (ds_ret de_bl)) dss_nil)))))) hp)
    (dss_cons (ds_for F (di_seq F (de_callC F A c__law_all_trees hC__law_all_trees (da_cons (de_var F 3) da_nil))) (dg_name F 6) (dss_cons (ds_set F 7 (de_callC F A c__law_named hC__law_named (da_cons (de_var F 3) (da_cons (de_var F 6) da_nil))))
    (dss_cons (ds_set F 8 (de_callB (cd_len F) (A.none B.z_len) PySem.boot_len (da_cons (de_callC F A c__law_last_ones hC__law_last_ones (da_cons (de_var F 3) (da_cons (de_var F 6) da_nil))) da_nil)))
    (dss_one (ds_if (DW.dt (dw_or (dt_cmp (opd_ne F) (de_get2 F A.w (de_var F 4) (de_var F 7) de_int) (de_callC F A c__law_two_to hC__law_two_to (da_cons (de_var F 8) da_nil))) (dw_or1 (dt_not (dt_truth F (de_callC F A c__law_same hC__law_same (da_cons (de_callC F A c_inner_level hC_inner_level (da_cons (de_var F 3) (da_cons (de_var F 7) da_nil))) (da_cons (de_var F 8) da_nil)))))))) (dss_one (ds_ret de_bl)) dss_nil)))) hp)
    (dss_one (ds_if (dt_not (dt_truth F (de_callC F A c__law_same hC__law_same (da_cons (de_callKC F A k_tree_over_names_land hC_tree_over (dk_cons (de_tup da_nil) (dk_cons (de_var F 3) dk_nil))) (da_cons (de_callC F A c__law_named hC__law_named (da_cons (de_var F 3) (da_cons (de_callC F A c__law_tree_over hC__law_tree_over (da_cons (de_var F 3) (da_cons (de_lst da_nil) da_nil))) da_nil))) da_nil))))) (dss_one (ds_ret de_bl)) dss_nil)))))) hp)
    (dss_one (ds_ret de_bl))))
end
end Z
set_option maxRecDepth 100000
set_option maxHeartbeats 4000000
/-! the draws -/
namespace Z
open PySem PySem.Spec PyProof.Rows L2
noncomputable def G_draw : GFn := runF n__law_draw f__law_draw
noncomputable def G_pick : GFn := runF n__law_pick (f__law_pick G_draw)
noncomputable def G_some : GFn := runF n__law_some (f__law_some G_draw)
noncomputable def G_bag : GFn := runF n__law_bag f__law_bag
section
variable {S S1 S2 S0 : Store} {n p q : Nat} {ds es : List PyData}
def bg (p : Nat) (cs : List Int) (a b : Int) : SO := .lst [.d (.int a), .d (.int b), .own p, .d (.list (cs.map .int))]
/-- the bag at n, its great cells at p -/
structure Bg (n p : Nat) (S : Store) : Prop where
  ex : ∃ (a b : Int) (cs gs : List Int), S[n]? = some (bg p cs a b) ∧ S[p]? = some (.lst (evs (gs.map .int))) ∧ 0 ≤ b ∧ cs ≠ [] ∧ cs.length ≤ 10000 ∧ n ≠ p
structure Fb (n p : Nat) (S S' : Store) : Prop where
  st : Bg n p S'
  le : S.length ≤ S'.length
  eq : ∀ j, j ≠ n → j ≠ p → j < S.length → S'[j]? = S[j]?
theorem Bg.lt (h : Bg n p S) : n < S.length ∧ p < S.length ∧ n ≠ p := by
  obtain ⟨_, _, _, _, e, e2, _, _, _, h⟩ := h
  exact ⟨(List.getElem?_eq_some_iff.mp e).1, (List.getElem?_eq_some_iff.mp e2).1, h⟩
theorem Fb.refl (h : Bg n p S) : Fb n p S S := ⟨h, Nat.le_refl _, fun _ _ _ _ => rfl⟩
theorem Fb.trans (h : Fb n p S S1) (k : Fb n p S1 S2) : Fb n p S S2 := ⟨k.st, Nat.le_trans h.le k.le, fun j h1 h2 h3 => (k.eq j h1 h2 (Nat.lt_of_lt_of_le h3 h.le)).trans (h.eq j h1 h2 h3)⟩
theorem Bg.app (h : Bg n p S) : Bg n p (S ++ S1) := by
  have hl := h.lt
  obtain ⟨a, b, c, d, q, h0⟩ := h
  exact ⟨a, b, c, d, by rw [List.getElem?_append_left hl.1]; exact q, by rw [List.getElem?_append_left hl.2.1]; exact h0.1, h0.2⟩
theorem Fb.app (h : Bg n p S) : Fb n p S (S ++ S1) := ⟨h.app, by simp, fun j _ _ h2 => List.getElem?_append_left h2⟩
theorem Bg.other (h : Bg n p S) {o : SO} (h1 : q ≠ n) (h2 : q ≠ p) : Bg n p (S.set q o) := by
  obtain ⟨a, b, c, d, z, h0⟩ := h
  exact ⟨a, b, c, d, by rw [List.getElem?_set_ne h1]; exact z, by rw [List.getElem?_set_ne h2]; exact h0.1, h0.2⟩
/-- a change of what was not there before -/
theorem Fb.other (h : Fb n p S S1) {o : SO} (hq : S.length ≤ q) (hn : n < S.length) (hp : p < S.length) : Fb n p S (S1.set q o) :=
  ⟨h.st.other (by omega) (by omega), by simpa using h.le, fun j h1 h2 h3 => by rw [List.getElem?_set_ne (by omega)]; exact h.eq j h1 h2 h3⟩
theorem Fb.keep (h : Fb n p S S1) {o : SO} (h1 : q ≠ n) (h2 : q ≠ p) (e : S[q]? = some o) : S1[q]? = some o := (h.eq q h1 h2 (List.getElem?_eq_some_iff.mp e).1).trans e
def TB (S0 : Store) (n p : Nat) (cs : List Int) (a b : Int) (gs : List Int) : Store := (S0.set p (.lst (evs (gs.map .int)))).set n (bg p cs a b)
section
variable {cs gs : List Int} {a b i : Int} (hn : n < S0.length) (hp : p < S0.length) (hnp : n ≠ p)
include hn hp hnp
theorem tb_n : (TB S0 n p cs a b gs)[n]? = some (bg p cs a b) := set_get (by simpa using hn)
theorem tb_p : (TB S0 n p cs a b gs)[p]? = some (.lst (evs (gs.map .int))) := by unfold TB; rw [List.getElem?_set_ne hnp]; exact set_get hp
theorem tb_0 : gIx (.own n) (.d (.int 0)) (TB S0 n p cs a b gs) = .ok (.d (.int a)) (TB S0 n p cs a b gs) := (atI_own (tb_n hn hp hnp)).trans rfl
theorem tb_1 : gIx (.own n) (.d (.int 1)) (TB S0 n p cs a b gs) = .ok (.d (.int b)) (TB S0 n p cs a b gs) := (atI_own (tb_n hn hp hnp)).trans rfl
theorem tb_2 : gIx (.own n) (.d (.int 2)) (TB S0 n p cs a b gs) = .ok (.own p) (TB S0 n p cs a b gs) := (atI_own (tb_n hn hp hnp)).trans rfl
theorem tb_3 : gIx (.own n) (.d (.int 3)) (TB S0 n p cs a b gs) = .ok (.d (.list (cs.map .int))) (TB S0 n p cs a b gs) := (atI_own (tb_n hn hp hnp)).trans rfl
theorem tb_s0 : putL (.own n) (.d (.int 0)) (.d (.int i)) (TB S0 n p cs a b gs) = some (TB S0 n p cs i b gs) := by
  refine (putL_own (tb_n hn hp hnp) (k := 0) (by simp)).trans ?_
  simp [TB, bg]
theorem tb_s1 : putL (.own n) (.d (.int 1)) (.d (.int i)) (TB S0 n p cs a b gs) = some (TB S0 n p cs a i gs) := by
  refine (putL_own (tb_n hn hp hnp) (k := 1) (by simp)).trans ?_
  simp [TB, bg]
theorem tb_len : gLen [.own p] (TB S0 n p cs a b gs) = .ok (.d (.int gs.length)) (TB S0 n p cs a b gs) := by
  refine (len_own (tb_p hn hp hnp)).trans ?_
  simp
theorem tb_kind : isKind "list" (.own p) (TB S0 n p cs a b gs) = true := kind_own (tb_p hn hp hnp)
theorem tb_pop {g : Int} : gPop (.own p) [] (TB S0 n p cs a b (gs ++ [g])) = .ok (.d (.int g)) (TB S0 n p cs a b gs) := by
  unfold gPop
  have : ownOf (TB S0 n p cs a b (gs ++ [g])) (.own p) = some (p, evs ((gs ++ [g]).map .int)) := by simp only [ownOf, tb_p hn hp hnp]
  rw [this]
  have h2 : (TB S0 n p cs a b (gs ++ [g])).set p (.lst (evs ((gs ++ [g]).map .int)).dropLast) = TB S0 n p cs a b gs := by
    unfold TB
    rw [List.set_comm _ _ hnp, List.set_set]
    simp [evs]
  simp only [h2]
  simp [evs]
theorem tb_Fb (h0 : 0 ≤ b) (h1 : cs ≠ []) (h2 : cs.length ≤ 10000) (h : ∀ j, j ≠ n → j ≠ p → S0[j]? = S[j]?) (hl : S0.length = S.length) : Fb n p S (TB S0 n p cs a b gs) :=
  ⟨⟨a, b, cs, gs, tb_n hn hp hnp, tb_p hn hp hnp, h0, h1, h2, hnp⟩, by simp [TB, hl], fun j h3 h4 _ => by unfold TB; rw [List.getElem?_set_ne (Ne.symm h3), List.getElem?_set_ne (Ne.symm h4)]; exact h j h3 h4⟩
end
theorem draw_T {cs gs : List Int} {a b : Int} (hn : n < S0.length) (hp : p < S0.length) (hnp : n ≠ p) (c0 : cs ≠ []) (c1 : cs.length ≤ 10000) {m : Nat} (h1 : 1 ≤ m) (h2 : m < 536870912) :
    Wp (G_draw [.own n, .d (.int (m : Int))] (TB S0 n p cs a b gs)) (fun v S' => ∃ k : Nat, v = .d (.int (k : Int)) ∧ k < m ∧ ∃ a' gs', S' = TB S0 n p cs a' (b + 1) gs') nox := by
  have m0 : ¬ (m = 0) := by omega
  have hd : ∀ x : Int, CDivN x m := fun x => ⟨by omega, by omega⟩
  have hd2 : ∀ x : Int, CDivN x 32 := fun x => ⟨by decide, by decide⟩
  have fr : ∀ x : Int, 0 ≤ x.fmod m ∧ x.fmod m < m := fun x => fmod_range (by omega)
  have fin : ∀ (x : Int) (a' : Int) (gs' : List Int), ∃ k : Nat, x.fmod m = (k : Int) ∧ k < m ∧ ∃ a'' gs'', TB S0 n p cs a' (b + 1) gs' = TB S0 n p cs a'' (b + 1) gs'' := fun x a' gs' => ⟨(x.fmod m).toNat, by have := fr x; omega, by have := fr x; omega, a', gs', rfl⟩
  have k1 : ∀ x : Int, CMul x 48271 := fun x => .inr ⟨by decide, by decide⟩
  have k2 : ∀ x : Int, CMul x 69621 := fun x => .inr ⟨by decide, by decide⟩
  have k3 : ∀ x : Int, CMul x 16807 := fun x => .inr ⟨by decide, by decide⟩
  have k4 : ∀ x : Int, CMul x 40014 := fun x => .inr ⟨by decide, by decide⟩
  have k5 : ∀ x y : Int, CMul (x.fmod 2147483647) y := fun x y => .inl (by
    have := fmod_range (a := x) (m := 2147483647) (by decide)
    constructor <;> omega)
  have cl : 0 < cs.length := List.length_pos_iff.mpr c0
  have fc := fmod_range (a := b + 1) (m := (cs.length : Int)) (by omega)
  obtain ⟨ci, hci⟩ : ∃ c, atI (cs.map PyData.int) ((b + 1).fmod (cs.length : Int)) = some (.int c) := by
    obtain ⟨d, e, hd⟩ := atI_lt (xs := cs.map PyData.int) fc.1 (by simpa using fc.2)
    obtain ⟨c, _, rfl⟩ := List.mem_map.mp hd
    exact ⟨c, e⟩
  by_cases a0 : a = 0
  · rcases List.eq_nil_or_concat gs with g0 | ⟨gs', g, g0⟩
    · simp [G_draw, runF, f__law_draw, startR, tb_0 hn hp hnp, tb_1 hn hp hnp, tb_2 hn hp hnp, tb_3 hn hp hnp, tb_s0 hn hp hnp, tb_s1 hn hp hnp, tb_len hn hp hnp, m0, hd, hd2, k1, k2, k3, k4, k5, c0, hci, a0, g0]
      exact fin _ _ _
    · subst g0
      by_cases g1 : 0 < g
      · simp [G_draw, runF, f__law_draw, startR, tb_0 hn hp hnp, tb_1 hn hp hnp, tb_2 hn hp hnp, tb_3 hn hp hnp, tb_s0 hn hp hnp, tb_s1 hn hp hnp, tb_len hn hp hnp, tb_kind hn hp hnp, tb_pop hn hp hnp, m0, hd, hd2, k1, k2, k3, k4, k5, c0, hci, a0, g1]
        exact fin _ _ _
      · simp [G_draw, runF, f__law_draw, startR, tb_0 hn hp hnp, tb_1 hn hp hnp, tb_2 hn hp hnp, tb_3 hn hp hnp, tb_s0 hn hp hnp, tb_s1 hn hp hnp, tb_len hn hp hnp, tb_kind hn hp hnp, tb_pop hn hp hnp, m0, hd, hd2, k1, k2, k3, k4, k5, c0, hci, a0, g1]
        exact fin _ _ _
  · by_cases a1 : 0 < a
    · simp [G_draw, runF, f__law_draw, startR, tb_0 hn hp hnp, tb_1 hn hp hnp, tb_2 hn hp hnp, tb_3 hn hp hnp, tb_s0 hn hp hnp, tb_s1 hn hp hnp, tb_len hn hp hnp, m0, hd, hd2, k1, k2, k3, k4, k5, c0, hci, a0, a1]
      exact fin _ _ _
    · simp [G_draw, runF, f__law_draw, startR, tb_0 hn hp hnp, tb_1 hn hp hnp, tb_2 hn hp hnp, tb_3 hn hp hnp, tb_s0 hn hp hnp, tb_s1 hn hp hnp, tb_len hn hp hnp, m0, hd, hd2, k1, k2, k3, k4, k5, c0, hci, a0, a1]
      exact fin _ _ _
theorem wp_draw (st : Bg n p S) {m : Nat} (h1 : 1 ≤ m) (h2 : m < 536870912) : Wp (G_draw [.own n, .d (.int (m : Int))] S) (fun v S' => ∃ k : Nat, v = .d (.int (k : Int)) ∧ k < m ∧ Fb n p S S') nox := by
  obtain ⟨hn, hp, hnp⟩ := st.lt
  obtain ⟨a, b, cs, gs, q1, q2, b0, c0, c1, _⟩ := st
  have es : TB S n p cs a b gs = S := by
    unfold TB
    rw [← (as_set q2).2, ← (as_set q1).2]
  have key := draw_T (a := a) (b := b) (gs := gs) hn hp hnp c0 c1 h1 h2
  rw [es] at key
  refine key.imp ?_
  rintro v S' ⟨k, rfl, hk, a', gs', rfl⟩
  exact ⟨k, rfl, hk, tb_Fb hn hp hnp (by omega) c0 c1 (fun _ _ _ => rfl) rfl⟩
theorem wp_pick (st : Bg n p S) (h1 : ds ≠ []) (h2 : ds.length < 536870912) : Wp (G_pick [.own n, .d (.list ds)] S) (fun v S' => ∃ d ∈ ds, v = .d d ∧ Fb n p S S') nox := by
  have l1 : 0 < ds.length := List.length_pos_iff.mpr h1
  simp [-e_seq, G_pick, f__law_pick, startR]
  refine (wp_draw st (m := ds.length) (by omega) h2).imp ?_
  rintro v S' ⟨k, rfl, hk, fr⟩
  have e : atI ds (k : Int) = some ds[k] := by rw [atI_nat]; simp [hk]
  simp [e]
  exact ⟨_, List.getElem_mem hk, rfl, fr⟩
theorem wp_pickO (st : Bg n p S) (hq : S[q]? = some (.lst (evs ds))) (hqn : q ≠ n) (hqp : q ≠ p) (h1 : ds ≠ []) (h2 : ds.length < 536870912) : Wp (G_pick [.own n, .own q] S) (fun v S' => ∃ d ∈ ds, v = .d d ∧ Fb n p S S') nox := by
  have l1 : 0 < ds.length := List.length_pos_iff.mpr h1
  simp [-e_seq, G_pick, f__law_pick, startR, len_own hq]
  refine (wp_draw st (m := ds.length) (by omega) h2).imp ?_
  rintro v S' ⟨k, rfl, hk, fr⟩
  have e : atI (evs ds) (k : Int) = some (.d ds[k]) := by rw [atI_nat]; simp [hk, evs]
  simp [atI_own (fr.keep hqn hqp hq), e]
  exact ⟨_, List.getElem_mem hk, rfl, fr⟩
theorem popAt {xs : List EV} {k : Nat} (e : S[q]? = some (.lst xs)) (hk : k < xs.length) (hl : xs.length ≤ 10000) : gPop (.own q) [.d (.int (k : Int))] S = .ok xs[k] (S.set q (.lst (xs.eraseIdx k))) := by
  have h1 : inW (k : Int) = true := inW_nat (by omega)
  have h2 : seqIndex? (k : Int) xs.length = some k := by
    unfold seqIndex?
    have h3 : ¬ ((k : Int) < 0) := by omega
    simp [hk, h3]
  simp [gPop, ownOf, e, h1, h2, hk]
def SomeI (n p : Nat) (S : Store) (ds : List PyData) (x y : Option EV) (k : Nat) (ρ : Rho) (S' : Store) : Prop :=
  ∃ (left fnd : List PyData) (u : Option EV), ρ = [some (.own n), x, y, some (.own S.length), some (.own (S.length + 1)), u] ∧ S'[S.length]? = some (.lst (evs left)) ∧ S'[S.length + 1]? = some (.lst (evs fnd)) ∧ Fb n p S S' ∧ fnd.length = k ∧ (fnd ++ left).Perm ds
theorem wp_some (st : Bg n p S) {x : EV} {m : Nat} (hx : gListO [x] S = .ok (.own S.length) (S ++ [.lst (evs ds)])) (hm : m ≤ ds.length) (hl : ds.length ≤ 10000) :
    Wp (G_some [.own n, x, .d (.int (m : Int))] S) (fun v S' => ∃ es left : List PyData, v = .d (.list es) ∧ es.length = m ∧ (es ++ left).Perm ds ∧ Fb n p S S') nox := by
  obtain ⟨hn, hp, hnp⟩ := st.lt
  have hw : inW (m : Int) = true := inW_nat (by omega)
  simp [-e_seq, G_some, f__law_some, startR, hx, hw]
  refine wps_forR (SomeI n p S ds (some x) (some (.d (.int (m : Int))))) ?_ ?_ ?_
  · refine ⟨ds, [], none, rfl, ?_, ?_, Fb.app st, rfl, List.Perm.refl _⟩
    · simp
    · rw [List.getElem?_append_right (by omega)]; simp
  · rintro k hk ρ S1 ⟨left, fnd, u, rfl, q1, q2, q3, q4, q5⟩
    have hll : fnd.length + left.length = ds.length := by rw [← q5.length_eq, List.length_append]
    refine ⟨_, rfl, ?_⟩
    simp [-e_seq, kind_own q1, kind_own q2, len_own q1]
    refine (wp_draw q3.st (m := left.length) (by omega) (by omega)).imp ?_
    rintro v S2 ⟨j, rfl, hj, fr⟩
    have r1 := fr.keep (by omega) (by omega) q1
    have r2 := fr.keep (by omega) (by omega) q2
    have z4 : (evs fnd).length < sizeLine := small' (by simp; omega)
    have e1 : (S2.set S.length (.lst ((evs left).eraseIdx j)))[S.length + 1]? = some (.lst (evs fnd)) := by rw [List.getElem?_set_ne (by omega)]; exact r2
    simp [popAt r1 (k := j) (by simpa using hj) (by simp; omega), app_own e1 z4]
    refine ⟨left.eraseIdx j, fnd ++ [left[j]], _, rfl, ?_, ?_, ?_, ?_, ?_⟩
    · rw [List.getElem?_set_ne (by omega)]
      have hh := (List.getElem?_eq_some_iff.mp r1).1
      simp [hh, evs, List.eraseIdx_eq_take_drop_succ, List.map_take, List.map_drop]
    · rw [set_get (by have := (List.getElem?_eq_some_iff.mp r2).1; simpa using this)]
      simp [evs]
    · exact ((q3.trans fr).other (Nat.le_refl _) hn hp).other (Nat.le_succ _) hn hp
    · simp [q4]
    · rw [List.append_assoc]
      refine (List.Perm.append_left _ ?_).trans q5
      have := drop_one_perm (l := left) (k := j) (a := left[j]) (by simp [hj])
      rw [List.eraseIdx_eq_take_drop_succ]
      exact this
  · rintro ρ S1 ⟨left, fnd, u, rfl, q1, q2, q3, q4, q5⟩
    simp [frz_own q2]
    exact ⟨q4, ⟨left, q5⟩, q3.other (Nat.le_succ _) hn hp⟩
end
def ab (i : Int) : Int := if i < 0 then -i else i
theorem wps_into {r : RS} {a b c : Rho → Store → Prop} {q : EV → Store → Prop} {z : Exn → Rho → Store → Prop} (I : Rho → Store → Prop) (h : WpS r ⟨I, q, b, c, z⟩) (k : ∀ ρ S, I ρ S → a ρ S) : WpS r ⟨a, q, b, c, z⟩ :=
  WpS.imp h k (fun _ _ h => h) (fun _ _ h => h) (fun _ _ h => h) (fun _ _ _ h => h)
def BagI (ns cs : List Int) (ρ : Rho) (S : Store) : Prop := ∃ (p : Nat) (gs : List Int), ρ = [some (.scr (ns.map .int)), some (.d (.list (cs.map .int))), some (.own p), none] ∧ S[p]? = some (.lst (evs (gs.map .int)))
theorem wp_bag (ns : List Int) (hl : ns.length ≤ 63) : Wp (G_bag [.scr (ns.map .int)] []) (fun v S' => ∃ n p, v = .own n ∧ Bg n p S') nox := by
  have hsl : ns.length ≤ sizeLine := small (by omega)
  have hsl1 : ns.length + 1 ≤ sizeLine := small (by omega)
  simp [-e_seq, G_bag, f__law_bag, startR]
  refine wp_lcM (cs := ns) (fun i => itI i) (fun i => .int (ab i)) (by simp [evs, itI]) (fun i hi => ⟨_, rfl, ?_⟩) ?_
  · simp [itI, ab]
  · obtain ⟨cs, hcs⟩ : ∃ cs : List Int, cs = ns.map ab ++ [7] := ⟨_, rfl⟩
    have hcl : cs.length = ns.length + 1 := by simp [hcs]
    have e1 : (ns.map fun i => PyData.int (ab i)) ++ [.int 7] = cs.map .int := by simp [hcs]
    simp [-e_seq, hsl, hsl1, e1]
    have hc0 : ∃ c, atI (cs.map PyData.int) 0 = some (.int c) := by
      obtain ⟨d, e, hd⟩ := atI_lt (xs := cs.map PyData.int) (i := 0) (by omega) (by simp [hcl])
      obtain ⟨c, _, rfl⟩ := List.mem_map.mp hd
      exact ⟨c, e⟩
    obtain ⟨c0, ec0⟩ := hc0
    have hp : CPow 10 18 := ⟨by decide, by decide, by decide⟩
    have hd2 : ∀ x : Int, CDivN x 2 := fun x => ⟨by decide, by decide⟩
    simp [-e_seq, ec0]
    refine wps_into (BagI ns cs) ?_ ?_
    · by_cases c : c0.fmod 2 = 0
      · rw [if_pos c]
        simp [-e_seq]
        refine wp_lcF (cs := cs) (fun i => itI i) (fun i => decide (10 ^ 18 ≤ i)) (fun i => .int (i.fdiv 2)) (by simp [evs, itI]) (fun i hi => ⟨_, rfl, ?_⟩) ?_
        · simp [itI, hp, hd2]
        · have hgl : ((cs.filter fun i => decide (10 ^ 18 ≤ i)).map fun i => PyData.int (i.fdiv 2)).length ≤ sizeLine := by
            have := List.length_filter_le (fun i => decide ((10 : Int) ^ 18 ≤ i)) cs
            rw [List.length_map]
            exact small (by omega)
          obtain ⟨gs, egs⟩ : ∃ gs : List Int, gs = (cs.filter fun i => decide (10 ^ 18 ≤ i)).map fun i => i.fdiv 2 := ⟨_, rfl⟩
          have e2 : ((cs.filter fun i => decide (10 ^ 18 ≤ i)).map fun i => PyData.int (i.fdiv 2)) = gs.map .int := by simp [egs]
          rw [e2] at hgl ⊢
          rw [mkOwn_of (by simpa using hgl)]
          have q1 : ([SO.lst []] ++ [SO.lst (evs (gs.map .int))] : Store)[1]? = some (.lst (evs (gs.map .int))) := rfl
          simp only [List.length_map] at hgl
          simp [-e_seq, kind_own, gRevM, ownOf]
          exact ⟨1, gs.reverse, rfl, by simp [evs]⟩
      · rw [if_neg c]
        exact ⟨0, [], rfl, rfl⟩
    · rintro ρ S ⟨p, gs, rfl, hp⟩
      simp [-e_seq]
      refine wp_lcM (cs := cs) (fun i => itI i) (fun i => .int (i.fmod 2147483647)) (by simp [evs, itI]) (fun i hi => ⟨_, rfl, ?_⟩) ?_
      · simp [itI]
      · have e3 : cs.map (fun i => PyData.int (i.fmod 2147483647)) = (cs.map fun i => i.fmod 2147483647).map .int := by simp
        rw [e3]
        have h4 : 4 ≤ sizeLine := small (by omega)
        have hcs2 : cs.length ≤ sizeLine := small (by omega)
        have hpl := (List.getElem?_eq_some_iff.mp hp).1
        simp [-e_seq, -List.map_map, hcs2]
        rw [mkOwn_of (by simp; exact h4)]
        refine ⟨S.length, p, rfl, 0, 0, cs.map fun i => i.fmod 2147483647, gs, by simp [bg], by rw [List.getElem?_append_left hpl]; exact hp, by omega, ?_, ?_, by omega⟩
        · intro z
          have := congrArg List.length z
          simp [hcl] at this
        · simp; omega
end Z
set_option maxRecDepth 100000
set_option maxHeartbeats 4000000
/-! names -/
namespace Z
open PySem PySem.Spec PyProof.Rows L2
noncomputable def G_names : GFn := runF n__law_names (f__law_names G_draw)
/-- the name that a number stands for -/
def tx (j : Nat) : Str := Str.ofString (toString (j : Int))
def nj (j : Nat) : Str := Str.ofString "n" ++ tx j
def rdN (x : Str) : Nat := (x.cps.toList.drop 1).foldl (fun a c => 10 * a + (c - 48)) 0
theorem rd_nj : ∀ j, j < 100 → rdN (nj j) = j := by decide +kernel
theorem nj_ok : ∀ j : Nat, j < 999 → PyData.strOk (nj j) = true := by decide +kernel
theorem nj_len : ∀ j : Nat, j < 999 → (tx j).length ≤ 4 := by decide +kernel
theorem str_nat {S : Store} {j : Nat} (h : j < 999) : gStrI [.d (.int (j : Int))] S = .ok (.d (.str (tx j))) S := by
  have h2 : (j : Int).natAbs < 2 ^ 1900 := by
    rw [Int.natAbs_natCast]
    exact Nat.lt_of_lt_of_le h (Nat.le_trans (show 999 ≤ 2 ^ 10 by decide) (Nat.pow_le_pow_right (by decide) (by decide)))
  show (if (j : Int).natAbs < 2 ^ 1900 then _ else _) = _
  rw [if_pos h2]
  rfl
theorem nodup_le {α : Type} [DecidableEq α] : ∀ (l m : List α), l.Nodup → (∀ a ∈ l, a ∈ m) → l.length ≤ m.length
  | [], _, _, _ => Nat.zero_le _
  | a :: r, m, h, s => by
    have h1 := List.nodup_cons.mp h
    have hm := s a (by simp)
    have ih := nodup_le r (m.erase a) h1.2 fun b hb => by
      have hne : b ≠ a := fun z => h1.1 (z ▸ hb)
      exact (List.mem_erase_of_ne hne).mpr (s b (by simp [hb]))
    have := List.length_erase_of_mem hm
    have hp : 0 < m.length := List.length_pos_of_mem hm
    simp only [List.length_cons]
    omega
theorem nj_all {ws : List Str} (h : ∀ i, i < 100 → nj i ∈ ws) : 100 ≤ ws.length := by
  have := nodup_le ((List.range 100).map nj) ws (by
    refine List.pairwise_map.mpr (List.Pairwise.imp_of_mem ?_ List.nodup_range)
    intro a b ha hb hab z
    have h1 := congrArg rdN z
    rw [rd_nj a (List.mem_range.mp ha), rd_nj b (List.mem_range.mp hb)] at h1
    exact hab h1) (fun a ha => by
      obtain ⟨i, hi, rfl⟩ := List.mem_map.mp ha
      exact h i (List.mem_range.mp hi))
  simpa using this
section
variable {S S0 : Store} {n p : Nat}
def OkW (w : Str) : Prop := PyData.strOk w = true
theorem strs_shL {ws : List Str} (h : ∀ w ∈ ws, OkW w) : SeqAt.shaped (.list (ws.map .str)) = true := (dpt_list (k := 0) (dpt_map fun a ha => dpt_str (h a ha))).shaped
def NamesI (n p : Nat) (S : Store) (x1 x2 x3 : Option EV) (k : Nat) (ρ : Rho) (S' : Store) : Prop :=
  ∃ (ws : List Str) (u v w : Option EV), ρ = [some (.own n), x1, x2, x3, some (.own S.length), u, v, w] ∧ S'[S.length]? = some (.lst (evs (ws.map .str))) ∧ Fb n p S S' ∧ ws.length = k ∧ ws.Nodup ∧ ∀ w ∈ ws, OkW w
def WordI (n p : Nat) (S : Store) (k : Nat) (acc : List EV) (S' : Store) : Prop :=
  ∃ zs : List Str, acc = evs (zs.map .str) ∧ zs.length = k ∧ (∀ z ∈ zs, PyData.strOk z = true ∧ z.length = 1) ∧ Fb n p S S'
def PickI (n q : Nat) (S : Store) (ws : List Str) (x1 x2 x3 : Option EV) (k : Nat) (ρ : Rho) (S' : Store) : Prop :=
  ∃ (u w : Option EV) (a : Str), ρ = [some (.own n), x1, x2, x3, some (.own q), u, some (.d (.str a)), w] ∧ S' = S ∧ OkW a ∧ (∀ i, i + 1 < k → nj i ∈ ws) ∧ (1 ≤ k → a = nj (k - 1))
theorem wp_names (st : Bg n p S) {m wide : Nat} (hm : m ≤ 90) (hw : wide ≤ 100) :
    Wp (G_names [.own n, .d (.int (m : Int)), .d (.int (wide : Int))] S) (fun v S' => ∃ ws : List Str, v = .d (.list (ws.map .str)) ∧ ws.length = m ∧ ws.Nodup ∧ (∀ w ∈ ws, OkW w) ∧ Fb n p S S') nox := by
  obtain ⟨hn, hp, hnp⟩ := st.lt
  have w1 : inW (m : Int) = true := inW_nat (by omega)
  have w2 : inW (wide : Int) = true := inW_nat (by omega)
  have w3 : inW 999 = true := inW_nat (m := 999) (by decide)
  simp [-e_seq, G_names, f__law_names, startR, w1]
  refine wps_forR (NamesI n p S (some (.d (.int (m : Int)))) (some (.d (.int (wide : Int)))) (some (.d (.str "abcdefghijklmnopqrstuvwxyz0123456789")))) ⟨[], none, none, none, rfl, by simp, Fb.app st, rfl, List.nodup_nil, by simp⟩ ?_ ?_
  · rintro k hk ρ S1 ⟨ws, u, v, w, rfl, q1, q2, q3, q4, q5⟩
    refine ⟨_, rfl, ?_⟩
    simp [-e_seq, w2]
    refine wp_lc (WordI n p S1) ⟨[], rfl, rfl, by simp, Fb.refl q2.st⟩ ?_ ?_
    · rintro j it hj acc S2 ⟨zs, rfl, z1, z2, z3⟩
      have hjl : j < wide := by
        have := (List.getElem?_eq_some_iff.mp hj).1
        simpa using this
      rw [rng_get hjl] at hj
      cases hj
      refine ⟨_, rfl, ?_⟩
      simp
      refine (wp_draw z3.st (m := 36) (by omega) (by omega)).imp ?_
      rintro v S3 ⟨i, rfl, hi, fr⟩
      have e := ix_signs (S := S3) (i := (i : Int)) (by omega) (by omega)
      have e' : gIx (.d (.str "abcdefghijklmnopqrstuvwxyz0123456789")) (.d (.int (i : Int))) S3 = .ok (.d (.str ⟨#[sg (i : Int).toNat]⟩)) S3 := e
      simp [e']
      refine ⟨zs ++ [⟨#[sg i]⟩], by simp [evs], by simp [z1], ?_, z3.trans fr⟩
      intro z hz
      rcases List.mem_append.mp hz with hz | hz
      · exact z2 z hz
      · have := sg_ok i hi
        rw [List.mem_singleton.mp hz]
        exact ⟨ok_one (by omega), rfl⟩
    · rintro ys S2 ⟨zs, rfl, z1, z2, z3⟩
      rw [rng_len] at z1
      have zl : (zs.map (·.length)).sum ≤ 100 := by
        have : zs.map (·.length) = List.replicate zs.length 1 := by
          rw [← List.map_const']
          exact List.map_congr_left fun z hz => (z2 z hz).2
        rw [this, z1]
        simpa using hw
      have jok := join_ok (S := S2) (a := "") (zs := zs) (by
        have : (Str.ofString "").length = 0 := rfl
        show _ + _ * (Str.ofString "").length ≤ _
        rw [this]; omega)
      have jo : OkW (Txt.join "" zs) := ok_join (sep := "") (by decide +kernel) zs fun z hz => (z2 z hz).1
      have zlen : zs.length ≤ sizeLine := small (by omega)
      simp [-e_seq, zlen, jok, w3]
      have r1 := z3.keep (q := S.length) (by omega) (by omega) q1
      refine wps_forR (PickI n S.length S2 ws (some (.d (.int (m : Int)))) (some (.d (.int (wide : Int)))) (some (.d (.str "abcdefghijklmnopqrstuvwxyz0123456789")))) ⟨_, _, _, rfl, rfl, jo, by omega, by omega⟩ ?_ ?_
      · rintro j hj ρ S3 ⟨u', w', a, rfl, rfl, o1, o2, o3⟩
        refine ⟨_, rfl, ?_⟩
        have e0 : (0 : Int) + (j : Int) = (j : Int) := by omega
        have hin := in_own (neg := true) (a := a) eqi_str r1 (dpt_str (k := 0) o1).shaped (strs_shL q5)
        have l4 := nj_len j hj
        have l5 : (Str.ofString "n").length + (tx j).length ≤ sizeLine := by
          have : (Str.ofString "n").length = 1 := by decide +kernel
          exact small (by omega)
        by_cases ha : a ∈ ws
        · have e3 : gAdd (.d (.str "n")) (.d (.str (tx j))) S3 = .ok (.d (.str (nj j))) S3 := by
            rw [add_str, if_pos l5]; rfl
          simp [-e_seq, -add_str, e0, hin, ha, str_nat hj, e3]
          refine ⟨_, _, nj j, rfl, rfl, nj_ok j hj, fun i hi => ?_, fun _ => rfl⟩
          by_cases c : i + 1 < j
          · exact o2 i c
          · rw [o3 (by omega)] at ha
            rw [show i = j - 1 by omega]
            exact ha
        · have z4 : (evs (ws.map PyData.str)).length < sizeLine := small' (by simp; omega)
          simp [-e_seq, e0, hin, ha, kind_own r1, app_own r1 z4]
          refine ⟨ws ++ [a], _, _, _, rfl, ?_, ?_, by simp [q3], ?_, ?_⟩
          · rw [set_get (List.getElem?_eq_some_iff.mp r1).1]
            simp [evs]
          · exact (q2.trans z3).other (Nat.le_refl _) hn hp
          · rw [List.nodup_append]
            exact ⟨q4, by simp, by rintro x hx y hy rfl; exact ha (by simpa using (List.mem_singleton.mp hy) ▸ hx)⟩
          · intro x hx
            rcases List.mem_append.mp hx with hx | hx
            · exact q5 x hx
            · rw [List.mem_singleton.mp hx]; exact o1
      · rintro ρ S3 ⟨u', w', a, rfl, rfl, o1, o2, o3⟩
        have := nj_all fun i hi => o2 i (by omega)
        omega
  · rintro ρ S1 ⟨ws, u, v, w, rfl, q1, q2, q3, q4, q5⟩
    simp [frz_own q1]
    exact ⟨ws, rfl, q3, q4, q5, q2.other (Nat.le_refl _) hn hp⟩
end
end Z
set_option maxRecDepth 100000
set_option maxHeartbeats 4000000
/-! ends of roads; lands -/
namespace Z
open PySem PySem.Spec PyProof.Rows L2
noncomputable def G_ends : GFn := runF n__law_ends f__law_ends
noncomputable def G_pairs : GFn := runF n_pairs_of f_pairs_of
noncomputable def G_land : GFn := runF n__law_land (f__law_land G_draw G_names G_pick G_some)
section
variable {vs : List Str} {rs : List (Str × Str × Str)}
theorem ends_run (L : LandOk vs rs) (S : Store) : G_ends [.d (LD vs rs)] S = .ok (.d (.list ((endsOf vs rs).map ED))) S := by
  have lc := lcL_pure (S := S) (g := nameG 1) (t := yesF) (ρ := [some (.d (LD vs rs)), none])
    (e := (tupF (consF (idxF (ixF (varF 0) (kF (.int 0))) (ixF (varF 1) (kF (.int 1)))) (consF (idxF (ixF (varF 0) (kF (.int 0))) (ixF (varF 1) (kF (.int 2)))) nilF))))
    (fun r : Str × Str × Str => Itm.one (.d (RD r))) (fun _ => true) (fun r => .d (ED (vs.idxOf r.2.1, vs.idxOf r.2.2))) rs (fun r hr => ⟨_, rfl, rfl, fun _ => by
      have h1 := L.ends r hr
      simp [LD, RD, ED, ld0, rd1 (i := 0), rd2 (i := 0), idx_run L h1.1, idx_run L h1.2.1]⟩)
  rw [List.filter_eq_self.mpr (fun _ _ => rfl)] at lc
  have hmk : (evs (rs.map RD)).map Itm.one = rs.map fun r => Itm.one (.d (RD r)) := by simp [evs]
  have hev : (rs.map fun r => EV.d (ED (vs.idxOf r.2.1, vs.idxOf r.2.2))) = evs ((endsOf vs rs).map ED) := by simp [evs, endsOf]
  rw [hev] at lc
  have hl : (endsOf vs rs).length ≤ sizeLine := small (by have := L.rl; simp [endsOf]; omega)
  simp only [LD] at lc
  simp [G_ends, runF, f__law_ends, startR, LD, ld1, hmk, lc, hl]
theorem dctw_run {ρ0 : Option EV} (S : Store) (o1 o4 o5 o6 : Option EV) : ∀ (ws : List Str) (j : Nat) (acc : List (Key × PyData)), ws.Nodup → (∀ w ∈ ws, ∀ p ∈ acc, p.1 ≠ .inr w) → acc.length + ws.length ≤ 10000 →
    dcL (tupG 2 (consG (nameG 2) (consG (nameG 3) nilG))) yesF (varF 3) (varF 2) [ρ0, o1, none, none, o4, o5, o6] (enL (ws.map .str) j) acc S = .ok (acc ++ kvF ws j) S
  | [], j, acc, _, _, _ => by simp [enL, dcL, kvF]
  | w :: r, j, acc, nd, hf, hl => by
    have hk : kput acc (.inr w) (.int (j : Int)) = acc ++ [(.inr w, .int (j : Int))] := by
      unfold kput
      rw [if_neg]
      intro z
      obtain ⟨p, hp, e⟩ := List.any_eq_true.mp z
      exact hf w (by simp) p hp (of_decide_eq_true e)
    have nd' := List.nodup_cons.mp nd
    have hl' : acc.length < sizeLine := small' (by simp at hl; omega)
    have ih := dctw_run (ρ0 := ρ0) S o1 o4 o5 o6 r (j + 1) (acc ++ [(.inr w, .int (j : Int))]) nd'.2 (fun x hx p hp => by
      rcases List.mem_append.mp hp with z | z
      · exact hf x (by simp [hx]) p z
      · rw [List.mem_singleton.mp z]
        intro q
        cases q
        exact nd'.1 hx) (by simp at hl ⊢; omega)
    simp [enL, dcL, keyOf, hl', hk, ih, kvF]
theorem pairs_run (L : LandOk vs rs) (S : Store) : G_pairs [.d (LD vs rs)] S = .ok (.d (.list ((endsOf vs rs).map ED))) S := by
  have hvl := L.vl
  have dc := dctw_run (ρ0 := some (.d (LD vs rs))) S none none none none vs 0 [] L.nd (by simp) (by simp; omega)
  rw [List.nil_append] at dc
  have lc := lcL_pure (S := S) (g := tupG 3 (consG (nameG 4) (consG (nameG 5) (consG (nameG 6) nilG)))) (t := yesF) (ρ := [some (.d (LD vs rs)), some (.d (.dict (kvD (kvF vs 0)))), none, none, none, none, none])
    (e := (tupF (consF (ixF (varF 1) (varF 5)) (consF (ixF (varF 1) (varF 6)) nilF))))
    (fun r : Str × Str × Str => Itm.one (.d (RD r))) (fun _ => true) (fun r => .d (ED (vs.idxOf r.2.1, vs.idxOf r.2.2))) rs (fun r hr => ⟨[some (.d (LD vs rs)), some (.d (.dict (kvD (kvF vs 0)))), none, none, some (.d (.str r.1)), some (.d (.str r.2.1)), some (.d (.str r.2.2))], by simp [RD], rfl, fun _ => by
      have h1 := L.ends r hr
      simp [ED, dct_ix h1.1, dct_ix h1.2.1]⟩)
  rw [List.filter_eq_self.mpr (fun _ _ => rfl)] at lc
  have hmk : (evs (rs.map RD)).map Itm.one = rs.map fun r => Itm.one (.d (RD r)) := by simp [evs]
  have hev : (rs.map fun r => EV.d (ED (vs.idxOf r.2.1, vs.idxOf r.2.2))) = evs ((endsOf vs rs).map ED) := by simp [evs, endsOf]
  rw [hev] at lc
  have hl : (endsOf vs rs).length ≤ sizeLine := small (by have := L.rl; simp [endsOf]; omega)
  simp only [LD] at lc dc
  simp [G_pairs, runF, f_pairs_of, startR, LD, ld0, ld1, hmk, lc, hl, dc, mkDct]
end
section
variable {S S0 : Store} {n p q : Nat} {vs : List Str} {ds : List PyData}
theorem listO_own (h : S[q]? = some (.lst (evs ds))) (hl : ds.length ≤ sizeLine) : gListO [.own q] S = .ok (.own S.length) (S ++ [.lst (evs ds)]) := by
  simp [gListO, gListW, iLS_own h, mkOwn, hl]
theorem listO_list_ (hl : ds.length ≤ sizeLine) : gListO [.d (.list ds)] S = .ok (.own S.length) (S ++ [.lst (evs ds)]) := by
  simp [gListO, gListW, itemsLS, itemsL, mkOwn, hl]
theorem strs_back {es left : List PyData} (h : (es ++ left).Perm (vs.map .str)) : ∃ ws ls : List Str, es = ws.map .str ∧ (ws ++ ls).Perm vs := by
  obtain ⟨ks, e, pk⟩ := perm_map_inv (f := PyData.str) (g := fun d => match d with | .str x => x | _ => Str.empty) (fun a => rfl) h
  obtain ⟨ws, ls, rfl, h1, h2⟩ := List.append_eq_map_iff.mp e
  exact ⟨ws, ls, h1.symm, pk⟩
theorem wps_mid {sf sg : SF} {ρ : Rho} {a b c : Rho → Store → Prop} {q : EV → Store → Prop} {z : Exn → Rho → Store → Prop} (I : Rho → Store → Prop) (h : WpS (sf ρ S) ⟨I, q, b, c, z⟩) (k : ∀ ρ S, I ρ S → WpS (sg ρ S) ⟨a, q, b, c, z⟩) : WpS (seqF sf sg ρ S) ⟨a, q, b, c, z⟩ := by
  rw [wps_seq]
  exact WpS.imp h k (fun _ _ h => h) (fun _ _ h => h) (fun _ _ h => h) (fun _ _ _ h => h)
/-- each village but the first hangs on an earlier one -/
def Lk9 (vs : List Str) (ps : List (Str × Str)) : Prop := ∀ j, 1 ≤ j → j < vs.length → j ≤ ps.length → ∃ i, i < j ∧ (vs.getD i Str.empty, vs.getD j Str.empty) ∈ ps
def PairI (n p : Nat) (S : Store) (vs : List Str) (f : Option EV → Rho) (c k : Nat) (ρ : Rho) (S' : Store) : Prop :=
  ∃ (ps : List (Str × Str)) (u : Option EV), ρ = f u ∧ S'[S.length]? = some (.lst (evs (ps.map PD))) ∧ Fb n p S S' ∧ (PsOk vs ps ∧ Lk9 vs ps) ∧ ps.length = c + k
theorem pair_snoc {f : Option EV → Rho} {c k : Nat} {u : Option EV} {S1 S2 : Store} {ps : List (Str × Str)} {a : Str × Str} (hl : n < S.length ∧ p < S.length ∧ n ≠ p) (q1 : S1[S.length]? = some (.lst (evs (ps.map PD)))) (q2 : Fb n p S S1) (q3 : PsOk vs ps ∧ Lk9 vs ps) (q4 : ps.length = c + k)
    (fr : Fb n p S1 S2) (ha : a.1 ∈ vs ∧ a.2 ∈ vs ∧ a.1 ≠ a.2) (hk : vs.length ≤ ps.length + 1 ∨ ∃ i, i < ps.length + 1 ∧ a = (vs.getD i Str.empty, vs.getD (ps.length + 1) Str.empty)) : PairI n p S vs f c (k + 1) (f u) (S2.set S.length (.lst (evs ((ps ++ [a]).map PD)))) := by
  have r := fr.keep (q := S.length) (by omega) (by omega) q1
  refine ⟨ps ++ [a], u, rfl, set_get (List.getElem?_eq_some_iff.mp r).1, (q2.trans fr).other (Nat.le_refl _) hl.1 hl.2.1, ⟨q3.1.snoc ha, fun j h1 h2 h3 => ?_⟩, by simp [q4]; omega⟩
  by_cases hj : j ≤ ps.length
  · obtain ⟨i, hi, hm⟩ := q3.2 j h1 h2 hj
    exact ⟨i, hi, List.mem_append_left _ hm⟩
  · have : j = ps.length + 1 := by simp at h3; omega
    subst this
    rcases hk with hk | ⟨i, hi, rfl⟩
    · omega
    · exact ⟨i, hi, by simp⟩
/-- the land hangs together -/
def Conn (vs : List Str) (rs : List (Str × Str × Str)) : Prop := ∀ P : Str → Prop, (∃ v ∈ vs, P v) → (∀ r ∈ rs, P r.2.1 ↔ P r.2.2) → ∀ v ∈ vs, P v
def RoadI (n p : Nat) (S : Store) (vs nms : List Str) (ps : List (Str × Str)) (f : Option EV → Rho) (k : Nat) (ρ : Rho) (S' : Store) : Prop :=
  ∃ (rs : List (Str × Str × Str)) (u : Option EV), ρ = f u ∧ S'[S.length]? = some (.lst (evs (rs.map RD))) ∧ Fb n p S S' ∧ rs.map (·.1) = nms.take k ∧ (∀ r ∈ rs, r.2.1 ∈ vs ∧ r.2.2 ∈ vs ∧ r.2.1 ≠ r.2.2) ∧ (∀ a ∈ ps.take k, ∃ r ∈ rs, r.2 = a ∨ r.2 = (a.2, a.1))
theorem wp_land (st : Bg n p S) {most more : Nat} (h2 : 1 ≤ most) (h3 : most ≤ 20) (h4 : more ≤ 40) :
    Wp (G_land [.own n, .d (.int (most : Int)), .d (.int (more : Int))] S) (fun v S' => ∃ vs rs, v = .d (LD vs rs) ∧ LandOk vs rs ∧ Conn vs rs ∧ (rs.map (·.1)).Nodup ∧ 1 ≤ vs.length ∧ vs.length ≤ most ∧ (rs.length ≤ 60 ∧ rs.length + 1 ≤ vs.length + more) ∧ Fb n p S S') nox := by
  simp [-e_seq, G_land, f__law_land, startR]
  refine (wp_draw st (m := most) (by omega) (by omega)).imp ?_
  rintro v S1 ⟨mk, rfl, hmk, fr1⟩
  obtain ⟨M, hM⟩ : ∃ M : Nat, M = 1 + mk := ⟨_, rfl⟩
  have e1 : (1 : Int) + (mk : Int) = (M : Int) := by omega
  simp [-e_seq, e1]
  refine (wp_pick fr1.st (by simp) (by simp)).imp ?_
  rintro v S2 ⟨d, hd, rfl, fr2⟩
  obtain ⟨wide, rfl, hw⟩ : ∃ w : Nat, d = .int (w : Int) ∧ w ≤ 100 := by
    simp at hd
    rcases hd with rfl | rfl | rfl
    · exact ⟨1, rfl, by omega⟩
    · exact ⟨2, rfl, by omega⟩
    · exact ⟨8, rfl, by omega⟩
  simp [-e_seq]
  refine (wp_names fr2.st (m := M) (wide := wide) (by omega) hw).imp ?_
  rintro v S3 ⟨vs, rfl, vl, vnd, vok, fr3⟩
  have fr13 := (fr1.trans fr2).trans fr3
  have hl3 := fr13.st.lt
  have w1 : inW (M : Int) = true := inW_nat (by omega)
  have w2 : inW 1 = true := inW_nat (m := 1) (by omega)
  simp [-e_seq, w1, w2]
  refine wps_forR (PairI n p S3 vs (fun u => [some (.own n), some (.d (.int (most : Int))), some (.d (.int (more : Int))), some (.d (.int (M : Int))), some (.d (.list (vs.map .str))), some (.own S3.length), u, none, none, none]) 0) ⟨[], none, rfl, by simp, Fb.app fr13.st, ⟨by intro p hp; simp at hp, by intro j h1 h2 h3; simp at h3; omega⟩, rfl⟩ ?_ ?_
  · rintro k hk ρ S4 ⟨ps, u, rfl, q1, q2, q3, q4⟩
    obtain ⟨K, hK⟩ : ∃ K : Nat, K = 1 + k := ⟨_, rfl⟩
    have eK : (1 : Int) + (k : Int) = (K : Int) := by omega
    rw [eK]
    refine ⟨_, rfl, ?_⟩
    simp [-e_seq, kind_own q1]
    refine (wp_draw q2.st (m := K) (by omega) (by omega)).imp ?_
    rintro v S5 ⟨j, rfl, hj, fr⟩
    have r1 := fr.keep (q := S3.length) (by omega) (by omega) q1
    have z4 : (evs (ps.map PD)).length < sizeLine := small' (by simp; omega)
    have hne : vs[j]'(by omega) ≠ vs[K]'(by omega) := fun z => by
      have := (List.getElem_inj vnd).mp z
      omega
    have key := pair_snoc (a := (vs[j]'(by omega), vs[K]'(by omega))) (f := fun u => [some (.own n), some (.d (.int (most : Int))), some (.d (.int (more : Int))), some (.d (.int (M : Int))), some (.d (.list (vs.map .str))), some (.own S3.length), u, none, none, none]) (u := some (.d (.int (K : Int)))) hl3 q1 q2 q3 q4 fr ⟨List.getElem_mem _, List.getElem_mem _, hne⟩ (.inr ⟨j, by omega, by rw [show ps.length + 1 = K by omega]; simp [show j < vs.length by omega, show K < vs.length by omega]⟩)
    rw [← pd_snoc] at key
    simp [at_vs (show j < vs.length by omega), at_vs (show K < vs.length by omega), app_own r1 z4]
    exact key
  · rintro ρ S4 h4
    refine wps_mid (fun ρ S' => ∃ k, (M ≤ k + 1 ∧ k ≤ 60 ∧ k + 1 ≤ M + more) ∧ PairI n p S3 vs (fun u => [some (.own n), some (.d (.int (most : Int))), some (.d (.int (more : Int))), some (.d (.int (M : Int))), some (.d (.list (vs.map .str))), some (.own S3.length), u, none, none, none]) 0 k ρ S') ?_ ?_
    · obtain ⟨ps, u, rfl, q1, q2, q3, q4⟩ := h4
      by_cases hM1 : 1 < M
      · have hM2 : (1 : Int) < (M : Int) := by omega
        have em : (more : Int) + 1 = ((more + 1 : Nat) : Int) := rfl
        obtain ⟨O, hO⟩ : ∃ O : Nat, O = more + 1 := ⟨_, rfl⟩
        rw [← hO] at em
        simp [-e_seq, hM2, em]
        refine (wp_draw q2.st (m := O) (by omega) (by omega)).imp ?_
        rintro v S5 ⟨J, rfl, hJ, fr5⟩
        have w3 : inW (J : Int) = true := inW_nat (by omega)
        simp [-e_seq, w3]
        refine wps_forR (PairI n p S3 vs (fun u => [some (.own n), some (.d (.int (most : Int))), some (.d (.int (more : Int))), some (.d (.int (M : Int))), some (.d (.list (vs.map .str))), some (.own S3.length), u, none, none, none]) (M - 1)) ⟨ps, u, rfl, fr5.keep (by omega) (by omega) q1, q2.trans fr5, q3, by omega⟩ ?_ ?_
        · rintro k hk ρ S6 ⟨ps, u, rfl, q1, q2, q3, q4⟩
          refine ⟨_, rfl, ?_⟩
          have z4 : (evs (ps.map PD)).length < sizeLine := small' (by simp; omega)
          simp [-e_seq, kind_own q1]
          refine (wp_draw q2.st (m := 3) (by omega) (by omega)).imp ?_
          rintro v S7 ⟨t, rfl, ht, fr⟩
          have r1 := fr.keep (q := S3.length) (by omega) (by omega) q1
          by_cases t0 : t = 0
          · simp [-e_seq, t0]
            refine (wp_pickO fr.st r1 (by omega) (by omega) (by simp; intro z; simp [z] at q4; omega) (by simp; omega)).imp ?_
            rintro v S8 ⟨d, hd, rfl, fr8⟩
            obtain ⟨a, ha, rfl⟩ := List.mem_map.mp hd
            have r2 := fr8.keep (q := S3.length) (by omega) (by omega) r1
            have key := pair_snoc (f := fun u => [some (.own n), some (.d (.int (most : Int))), some (.d (.int (more : Int))), some (.d (.int (M : Int))), some (.d (.list (vs.map .str))), some (.own S3.length), u, none, none, none]) (u := some (.d (.int (0 + k : Int)))) hl3 q1 q2 q3 q4 (fr.trans fr8) (q3.1 a ha) (.inl (by omega))
            rw [← pd_snoc] at key
            simp [app_own r2 z4]
            simpa using key
          · simp [-e_seq, t0]
            refine (wp_some fr.st (x := .d (.list (vs.map .str))) (m := 2) (listO_list_ (small (by simp; omega))) (by simp; omega) (by simp; omega)).imp ?_
            rintro v S8 ⟨es, left, rfl, hes, pe, fr8⟩
            obtain ⟨ws, ls, rfl, pw⟩ := strs_back pe
            have r2 := fr8.keep (q := S3.length) (by omega) (by omega) r1
            match ws, hes, pw with
            | [a, b], _, pw =>
              have hnd : (([a, b] : List Str) ++ ls).Nodup := pw.nodup_iff.mpr vnd
              have key := pair_snoc (a := (a, b)) (f := fun u => [some (.own n), some (.d (.int (most : Int))), some (.d (.int (more : Int))), some (.d (.int (M : Int))), some (.d (.list (vs.map .str))), some (.own S3.length), u, none, none, none]) (u := some (.d (.int (0 + k : Int)))) hl3 q1 q2 q3 q4 (fr.trans fr8) ⟨pw.mem_iff.mp (by simp), pw.mem_iff.mp (by simp), fun z => by simp at hnd; exact hnd.1.1 z⟩ (.inl (by omega))
              rw [← pd_snoc] at key
              have z2 : 2 ≤ sizeLine := small (by omega)
              simp [app_own r2 z4, z2]
              simpa [PD] using key
        · rintro ρ S6 ⟨ps, u, rfl, q1, q2, q3, q4⟩
          exact ⟨M - 1 + J, ⟨by omega, by omega, by omega⟩, ps, u, rfl, q1, q2, q3, by omega⟩
      · have hM2 : ¬ (1 : Int) < (M : Int) := by omega
        simp [-e_seq, hM2]
        exact ⟨M - 1, ⟨by omega, by omega, by omega⟩, ps, u, rfl, q1, q2, q3, q4⟩
    · rintro ρ S5 ⟨k, ⟨hk0, hk, hkm⟩, ps, u7, rfl, q1, q2, q3, q4⟩
      simp [-e_seq, len_own q1]
      refine (wp_pick q2.st (by simp) (by simp)).imp ?_
      rintro v S6 ⟨d, hd, rfl, fr6⟩
      obtain ⟨wide2, rfl, hw2⟩ : ∃ w : Nat, d = .int (w : Int) ∧ w ≤ 100 := by
        simp at hd
        rcases hd with rfl | rfl | rfl
        · exact ⟨1, rfl, by omega⟩
        · exact ⟨2, rfl, by omega⟩
        · exact ⟨8, rfl, by omega⟩
      simp [-e_seq]
      refine (wp_names fr6.st (m := ps.length) (wide := wide2) (by omega) hw2).imp ?_
      rintro v S7 ⟨nms, rfl, nl, nnd, nok, fr7⟩
      have r7 := (fr6.trans fr7).keep (q := S3.length) (by omega) (by omega) q1
      have fr37 := q2.trans (fr6.trans fr7)
      have hl7 := fr37.st.lt
      have r7a : (S7 ++ [SO.lst []])[S3.length]? = some (.lst (evs (ps.map PD))) := by
        rw [List.getElem?_append_left (List.getElem?_eq_some_iff.mp r7).1]; exact r7
      have h37 : S3.length < S7.length := (List.getElem?_eq_some_iff.mp r7).1
      simp [-e_seq, len_own r7a]
      refine (wp_some (Bg.app fr37.st) (x := .own S3.length) (m := ps.length) (listO_own r7a (small (by simp; omega))) (by simp) (by simp; omega)).imp ?_
      rintro v S8 ⟨es, left, rfl, hes, pe, fr8⟩
      have hleft : left = [] := by
        have := pe.length_eq
        simp [hes] at this
        exact this
      subst hleft
      rw [List.append_nil] at pe
      obtain ⟨ps2, rfl, pp⟩ := perm_map_inv (f := PD) (g := fun d => match d with | .tuple [.str x, .str y] => (x, y) | _ => (Str.empty, Str.empty)) (fun a => rfl) pe
      have h8 : S8[S7.length]? = some (.lst (evs ([].map RD))) := fr8.keep (by omega) (by omega) (by simp)
      have fr78 : Fb n p S7 S8 := (Fb.app fr37.st).trans fr8
      simp [-e_seq]
      refine wps_forD (RoadI n p S7 vs nms ps2 (fun u => [some (.own n), some (.d (.int (most : Int))), some (.d (.int (more : Int))), some (.d (.int (M : Int))), some (.d (.list (vs.map .str))), some (.own S3.length), u7, some (.d (.list (nms.map .str))), some (.own S7.length), u])) ⟨[], none, rfl, h8, fr78, by simp, by simp, by simp⟩ ?_ ?_
      · rintro k d hd ρ S9 ⟨rs, u9, rfl, s1, s2, s3, s4, s5⟩
        obtain ⟨a, ha, rfl, hak⟩ : ∃ a ∈ ps2, d = PD a ∧ ps2[k]? = some a := by
          rw [List.getElem?_map] at hd
          cases e : ps2[k]? with
          | none => rw [e] at hd; cases hd
          | some a =>
            rw [e] at hd
            cases hd
            exact ⟨a, List.mem_of_getElem? e, rfl, rfl⟩
        have hkl : k < ps2.length := by
          have := (List.getElem?_eq_some_iff.mp hd).1
          simpa using this
        have hpl : ps2.length = ps.length := pp.length_eq
        have hrl : rs.length = k := by
          have := congrArg List.length s3
          simp at this
          omega
        have hat : atI (nms.map PyData.str) (rs.length : Int) = some (.str (nms[k]'(by omega))) := by rw [hrl]; exact at_vs (by omega)
        have hln : gLen [.own S7.length] S9 = .ok (.d (.int rs.length)) S9 := by rw [len_own s1]; simp
        have z4 : (evs (rs.map RD)).length < sizeLine := small' (by simp; omega)
        have z3 : 3 ≤ sizeLine := small (by omega)
        have ha2 := q3.1 a (pp.mem_iff.mp ha)
        refine ⟨_, rfl, ?_⟩
        simp [-e_seq, kind_own s1, hln, hat]
        refine (wp_draw s2.st (m := 2) (by omega) (by omega)).imp ?_
        rintro v S10 ⟨t, rfl, ht, fr10⟩
        have r10 := fr10.keep (q := S7.length) (by omega) (by omega) s1
        have done : ∀ b : Str × Str × Str, b.1 = nms[k]'(by omega) → (b.2.1 ∈ vs ∧ b.2.2 ∈ vs ∧ b.2.1 ≠ b.2.2) → (b.2 = a ∨ b.2 = (a.2, a.1)) → ∀ u, RoadI n p S7 vs nms ps2 (fun u => [some (.own n), some (.d (.int (most : Int))), some (.d (.int (more : Int))), some (.d (.int (M : Int))), some (.d (.list (vs.map .str))), some (.own S3.length), u7, some (.d (.list (nms.map .str))), some (.own S7.length), u]) (k + 1)
            [some (.own n), some (.d (.int (most : Int))), some (.d (.int (more : Int))), some (.d (.int (M : Int))), some (.d (.list (vs.map .str))), some (.own S3.length), u7, some (.d (.list (nms.map .str))), some (.own S7.length), u] (S10.set S7.length (.lst (evs (rs.map RD) ++ [.d (RD b)]))) := fun b e1 e2 e3 u => by
          refine ⟨rs ++ [b], u, rfl, ?_, (s2.trans fr10).other (Nat.le_refl _) hl7.1 hl7.2.1, ?_, ?_, ?_⟩
          · rw [set_get (List.getElem?_eq_some_iff.mp r10).1, rd_snoc]
          · rw [List.map_append, s3, List.map_cons, List.map_nil, e1, List.take_add_one, List.getElem?_eq_getElem (show k < nms.length by omega)]
            rfl
          · intro r hr
            rcases List.mem_append.mp hr with hr | hr
            · exact s4 r hr
            · rw [List.mem_singleton.mp hr]; exact e2
          · intro x hx
            rw [List.take_add_one, hak] at hx
            rcases List.mem_append.mp hx with hx | hx
            · obtain ⟨r, hr, h⟩ := s5 x hx
              exact ⟨r, List.mem_append_left _ hr, h⟩
            · have : x = a := by simpa using hx
              rw [this]
              exact ⟨b, by simp, e3⟩
        by_cases t0 : t = 0
        · simp [-e_seq, t0, app_own r10 z4, PD, z3]
          exact done (nms[k]'(by omega), a.1, a.2) rfl ha2 (.inl rfl) _
        · simp [-e_seq, t0, app_own r10 z4, PD, z3, ld0, ld1]
          exact done (nms[k]'(by omega), a.2, a.1) rfl ⟨ha2.2.1, ha2.1, fun z => ha2.2.2 z.symm⟩ (.inr rfl) _
      · rintro ρ S9 ⟨rs, u9, rfl, s1, s2, s3, s4, s5⟩
        simp [-e_seq]
        refine (wp_some s2.st (x := .d (.list (vs.map .str))) (m := M) (listO_list_ (small (by simp; omega))) (by simp; omega) (by simp; omega)).imp ?_
        rintro v S10 ⟨es, left, rfl, hes2, pe2, fr10⟩
        obtain ⟨ws, ls, rfl, pw⟩ := strs_back pe2
        have hls : ls = [] := by
          have := pw.length_eq
          simp at this hes2
          exact List.length_eq_zero_iff.mp (by omega)
        subst hls
        rw [List.append_nil] at pw
        have r10 := fr10.keep (q := S7.length) (by omega) (by omega) s1
        have hrl : rs.length ≤ 60 ∧ rs.length + 1 ≤ ws.length + more := by
          have := congrArg List.length s3
          simp at this
          have h5 := pw.length_eq
          omega
        have hwl : ws.length ≤ sizeLine := by
          have := pw.length_eq
          exact small (by omega)
        simp [tuple_own r10 (small (by simp; omega)), hwl]
        refine ⟨ws, rs, rfl, ?_, ?_, ?_, ?_, ?_, hrl, ?_⟩
        · exact ⟨pw.nodup_iff.mpr vnd, by have := pw.length_eq; omega, by have := pw.length_eq; omega, by omega, fun v hv => vok v (pw.mem_iff.mp hv), fun r hr => by
            have : r.1 ∈ rs.map (·.1) := List.mem_map_of_mem hr
            rw [s3] at this
            exact nok _ (List.mem_of_mem_take this), fun r hr => by
            have := s4 r hr
            exact ⟨pw.mem_iff.mpr this.1, pw.mem_iff.mpr this.2.1, this.2.2⟩⟩
        · rintro P ⟨v0, hv0, p0⟩ hP
          have hps : ps2.take (ps2.map PD).length = ps2 := List.take_of_length_le (by simp)
          rw [hps] at s5
          have hl2 : ps2.length = ps.length := pp.length_eq
          have step : ∀ j, j < vs.length → (P (vs.getD j Str.empty) ↔ P (vs.getD 0 Str.empty)) := by
            intro j
            induction j using Nat.strongRecOn with
            | _ j ih =>
              intro hj
              by_cases j0 : j = 0
              · rw [j0]
              · obtain ⟨i, hi, hm⟩ := q3.2 j (by omega) hj (by omega)
                obtain ⟨r, hr, h⟩ := s5 _ (pp.mem_iff.mpr hm)
                have hpr := hP r hr
                rw [← ih i hi (by omega)]
                rcases h with h | h
                · rw [h] at hpr; exact hpr.symm
                · rw [h] at hpr; exact hpr
          have all : ∀ v ∈ vs, (P v ↔ P (vs.getD 0 Str.empty)) := fun v hv => by
            obtain ⟨j, hj, rfl⟩ := List.mem_iff_getElem.mp hv
            have := step j hj
            rwa [List.getD_eq_getElem?_getD, List.getElem?_eq_getElem hj] at this
          intro v hv
          exact (all v (pw.mem_iff.mp hv)).mpr ((all v0 (pw.mem_iff.mp hv0)).mp p0)
        · rw [s3]; exact nnd.sublist (List.take_sublist _ _)
        · have := pw.length_eq; omega
        · have := pw.length_eq; omega
        · have a1 : Fb n p S S3 := fr13
          have a2 : Fb n p S S7 := a1.trans fr37
          have a3 : Fb n p S S9 := a2.trans s2
          exact a3.trans fr10
end
end Z
set_option maxRecDepth 100000
set_option maxHeartbeats 4000000
/-! reached -/
namespace Z
open PySem PySem.Spec PyProof.Rows L2
noncomputable def G_reached : GFn := runF n_reached f_reached
section
variable {S : Store} {n p N s : Nat} {F : List (Nat × Nat)} {A L M : List Nat}
/-! ### a table of numbers in the store -/
def stL (S : Store) (n : Nat) (f : Nat → List PyData) : Store := S ++ ((List.range n).map (fun a => SO.lst (evs (f a))) ++ [SO.lst ((List.range n).map fun a => EV.own (S.length + a))])
theorem stL_row {n a : Nat} {f : Nat → List PyData} (h : a < n) : (stL S n f)[S.length + a]? = some (.lst (evs (f a))) := by
  unfold stL
  rw [List.getElem?_append_right (Nat.le_add_right _ _), Nat.add_sub_cancel_left, List.getElem?_append_left (by simpa using h)]
  simp [h]
theorem stL_top {n : Nat} {f : Nat → List PyData} : (stL S n f)[S.length + n]? = some (.lst ((List.range n).map fun a => EV.own (S.length + a))) := by
  unfold stL
  rw [List.getElem?_append_right (Nat.le_add_right _ _), Nat.add_sub_cancel_left, List.getElem?_append_right (by simp)]
  simp
theorem stL_set {n a : Nat} {f : Nat → List PyData} {r : List PyData} (h : a < n) : (stL S n f).set (S.length + a) (.lst (evs r)) = stL S n fun j => if j = a then r else f j := by
  unfold stL
  rw [List.set_append_right _ _ (Nat.le_add_right _ _), Nat.add_sub_cancel_left, List.set_append_left _ _ (by simpa using h), set_range]
  congr 2
  refine range_map_eq fun k _ => ?_
  by_cases e : k = a <;> simp [e]
theorem stL_eq {n : Nat} {f g : Nat → List PyData} (h : ∀ a, a < n → f a = g a) : stL S n f = stL S n g := by
  unfold stL
  congr 2
  exact range_map_eq fun k hk => by rw [h k hk]

def nb1 (e : Nat × Nat) (a : Nat) : List Nat := (if e.1 = a then [e.2] else []) ++ (if e.2 = a then [e.1] else [])
def nbr (F : List (Nat × Nat)) (a : Nat) : List Nat := F.flatMap fun e => nb1 e a
theorem nbr_snoc {e : Nat × Nat} {a : Nat} : nbr (F ++ [e]) a = nbr F a ++ nb1 e a := by simp [nbr]
theorem nb1_len {e : Nat × Nat} {a : Nat} : (nb1 e a).length ≤ 2 := by
  unfold nb1
  split <;> split <;> simp
theorem nbr_len {a : Nat} : (nbr F a).length ≤ 2 * F.length := by
  induction F with
  | nil => simp [nbr]
  | cons e F ih =>
    have := nb1_len (e := e) (a := a)
    simp only [nbr, List.flatMap_cons, List.length_append, List.length_cons] at ih ⊢
    omega
theorem nbr_mem {a b : Nat} : b ∈ nbr F a ↔ ∃ e ∈ F, (e.1 = a ∧ e.2 = b) ∨ (e.2 = a ∧ e.1 = b) := by
  unfold nbr
  rw [List.mem_flatMap]
  constructor
  · rintro ⟨e, he, hb⟩
    refine ⟨e, he, ?_⟩
    unfold nb1 at hb
    rcases List.mem_append.mp hb with z | z
    · split at z
      · rename_i c; left; exact ⟨c, (List.mem_singleton.mp z).symm⟩
      · cases z
    · split at z
      · rename_i c; right; exact ⟨c, (List.mem_singleton.mp z).symm⟩
      · cases z
  · rintro ⟨e, he, ⟨h1, h2⟩ | ⟨h1, h2⟩⟩
    · exact ⟨e, he, by simp [nb1, h1, h2]⟩
    · exact ⟨e, he, by simp [nb1, h1, h2]⟩
/-- reached along roads, either way -/
inductive Urc (F : List (Nat × Nat)) (A : List Nat) : Nat → Prop
  | base (a : Nat) : a ∈ A → Urc F A a
  | step (a b : Nat) : Urc F A a → b ∈ nbr F a → Urc F A b
theorem Urc.mem {a : Nat} (r : Urc F A a) (h0 : ∀ a ∈ A, a ∈ L) (hc : ∀ a ∈ L, ∀ b ∈ nbr F a, b ∈ L) : a ∈ L := by
  induction r with
  | base a ha => exact h0 a ha
  | step a b _ hb ih => exact hc a ih b hb
structure Ure (F : List (Nat × Nat)) (N : Nat) (A M : List Nat) (place r : Nat) : Prop where
  inA : ∀ a ∈ A, a ∈ M
  nd : M.Nodup
  lt : ∀ a ∈ M, a < N
  rch : ∀ a ∈ M, Urc F A a
  done : ∀ j, j < place → j < M.length → ∀ b ∈ nbr F (M.getD j 0), b ∈ M
  part : ∀ k, k < r → k < (nbr F (M.getD place 0)).length → (nbr F (M.getD place 0)).getD k 0 ∈ M
theorem Ure.len {place r : Nat} (U : Ure F N A M place r) : M.length ≤ N := by
  have := nodup_le M (List.range N) U.nd (fun a ha => List.mem_range.mpr (U.lt a ha))
  simpa using this
theorem Ure.final {place r : Nat} (U : Ure F N A M place r) (h : M.length ≤ place) (a : Nat) : a ∈ M ↔ Urc F A a := by
  refine ⟨U.rch a, fun hr => hr.mem U.inA fun a ha b hb => ?_⟩
  obtain ⟨j, hj, rfl⟩ := List.mem_iff_getElem.mp ha
  exact U.done j (by omega) hj b (by rw [getD_lt hj]; exact hb)
def nS (S : Store) (N : Nat) (F : List (Nat × Nat)) : Store := stL S N fun a => NI (nbr F a)
theorem nS_len : (nS S N F).length = S.length + N + 1 := by simp [nS, stL]; omega
def reR (N : Nat) (P A : EV) (q w : Nat) (o4 o5 : Option EV) (pl : Nat) (o8 : Option EV) : Rho := [some (.d (.int (N : Int))), some P, some A, some (.own q), o4, o5, some (.own w), some (.d (.int (pl : Int))), o8, none]
def ReI (F : List (Nat × Nat)) (N : Nat) (A : List Nat) (S : Store) (P X : EV) (k : Nat) (ρ : Rho) (S' : Store) : Prop :=
  ∃ (M : List Nat) (pl : Nat) (o4 o5 o8 : Option EV), ρ = reR N P X (S.length + N) (S.length + N + 1) o4 o5 pl o8 ∧ S' = nS S N F ++ [.lst (evs (NI M))] ∧ Ure F N A M pl 0 ∧ pl ≤ M.length ∧ k = N - pl
def ReJ (F : List (Nat × Nat)) (N : Nat) (A : List Nat) (S : Store) (P X : EV) (o4 o5 : Option EV) (pl c : Nat) (r : Nat) (ρ : Rho) (S' : Store) : Prop :=
  ∃ (M : List Nat) (o8 : Option EV), ρ = reR N P X (S.length + N) (S.length + N + 1) o4 o5 pl o8 ∧ S' = nS S N F ++ [.lst (evs (NI M))] ∧ Ure F N A M pl r ∧ pl < M.length ∧ M.getD pl 0 = c
theorem wp_reached (hF : ∀ e ∈ F, e.1 < N ∧ e.2 < N ∧ e.1 ≠ e.2) (hl : F.length ≤ 1000) (hN : N ≤ 1000) (nA : A.Nodup) (hA : ∀ a ∈ A, a < N) :
    Wp (G_reached [.d (.int (N : Int)), .d (.list (F.map ED)), .d (.list (NI A))] S) (fun v S' => ∃ M : List Nat, v = .d (.list (NI M)) ∧ (∃ X, S' = S ++ X) ∧ M.Nodup ∧ (∀ a ∈ M, a < N) ∧ ∀ a, a ∈ M ↔ Urc F A a) nox := by
  have wN : inW (N : Int) = true := inW_nat (by omega)
  simp [-e_seq, G_reached, f_reached, startR, wN]
  refine wp_lc (fun q acc S' => acc = (List.range q).map (fun a => EV.own (S.length + a)) ∧ S' = S ++ (List.range q).map (fun _ => SO.lst (evs (NI [])))) ⟨rfl, by simp⟩ (fun q it hq acc S' h => ?_) ?_
  · obtain ⟨rfl, rfl⟩ := h
    have hql : q < N := by
      have := (List.getElem?_eq_some_iff.mp hq).1
      simpa using this
    rw [rng_get hql] at hq
    cases hq
    refine ⟨_, rfl, ?_⟩
    simp [-e_seq, List.range_succ, NI]
  · rintro ys S' ⟨rfl, rfl⟩
    rw [rng_len]
    have z0 : N ≤ sizeLine := small (by omega)
    rw [mkOwn_of (by simpa using z0)]
    have e0 : (S ++ (List.range N).map (fun _ => SO.lst (evs (NI []))) ++ [SO.lst ((List.range N).map fun a => EV.own (S.length + a))]) = nS S N [] := by
      unfold nS stL
      rw [List.append_assoc]
      congr 2
    have e1 : (S ++ (List.range N).map (fun _ => SO.lst (evs (NI [])))).length = S.length + N := by simp
    rw [e0, e1]
    simp [-e_seq]
    have own_at : ∀ k, k < N → atI ((List.range N).map fun a => EV.own (S.length + a)) (k : Int) = some (.own (S.length + k)) := fun k hk => atI_range _ hk
    refine wps_forD (ds := F.map ED) (fun q ρ S' => ∃ o4 o5 : Option EV, ρ = [some (.d (.int (N : Int))), some (.d (.list (F.map ED))), some (.d (.list (NI A))), some (.own (S.length + N)), o4, o5, none, none, none, none] ∧ S' = nS S N (F.take q)) ⟨none, none, rfl, rfl⟩ ?_ ?_
    · rintro q d hd ρ S' ⟨o4, o5, rfl, rfl⟩
      rw [List.getElem?_map] at hd
      cases he : F[q]? with
      | none => rw [he] at hd; cases hd
      | some e =>
        rw [he] at hd
        cases hd
        obtain ⟨a, b⟩ := e
        obtain ⟨ha, hb, hab⟩ := hF (a, b) (List.mem_of_getElem? he)
        have ha : a < N := ha
        have hb : b < N := hb
        have hab : a ≠ b := hab
        have ht : F.take (q + 1) = F.take q ++ [(a, b)] := by rw [List.take_add_one, he]; rfl
        have hla := nbr_len (F := F.take q) (a := a)
        have hlb := nbr_len (F := F.take q) (a := b)
        have hlt : (F.take q).length ≤ F.length := by simp; omega
        have top := fun f : Nat → List PyData => stL_top (S := S) (n := N) (f := f)
        have s1 : gAppend (.own (S.length + a)) [.d (.int (b : Int))] (nS S N (F.take q)) = .ok (.d .none) (stL S N fun j => if j = a then NI (nbr (F.take q) a ++ [b]) else NI (nbr (F.take q) j)) := by
          have := app_own (y := .d (.int (b : Int))) (stL_row (S := S) (n := N) (f := fun a => NI (nbr (F.take q) a)) ha) (small' (by simp; omega))
          rw [show evs (NI (nbr (F.take q) a)) ++ [EV.d (.int (b : Int))] = evs (NI (nbr (F.take q) a ++ [b])) by simp [evs, NI], stL_set ha] at this
          exact this
        have s2 : gAppend (.own (S.length + b)) [.d (.int (a : Int))] (stL S N fun j => if j = a then NI (nbr (F.take q) a ++ [b]) else NI (nbr (F.take q) j)) = .ok (.d .none) (nS S N (F.take (q + 1))) := by
          have hr := stL_row (S := S) (n := N) (f := fun j => if j = a then NI (nbr (F.take q) a ++ [b]) else NI (nbr (F.take q) j)) hb
          rw [if_neg (Ne.symm hab)] at hr
          have := app_own (y := .d (.int (a : Int))) hr (small' (by simp; omega))
          rw [show evs (NI (nbr (F.take q) b)) ++ [EV.d (.int (a : Int))] = evs (NI (nbr (F.take q) b ++ [a])) by simp [evs, NI], stL_set hb] at this
          rw [this]
          congr 1
          unfold nS
          refine stL_eq fun j _ => ?_
          rw [ht, nbr_snoc]
          unfold nb1
          by_cases c1 : j = b
          · subst c1
            simp [hab]
          · by_cases c2 : j = a
            · subst c2
              simp [c1, Ne.symm hab]
            · have c3 : ¬ a = j := fun z => c2 z.symm
              have c4 : ¬ b = j := fun z => c1 z.symm
              simp [c1, c2, c3, c4]
        have k1 : isKind "list" (.own (S.length + a)) (nS S N (F.take q)) = true := kind_own (stL_row ha)
        have k2 : isKind "list" (.own (S.length + b)) (stL S N fun j => if j = a then NI (nbr (F.take q) a ++ [b]) else NI (nbr (F.take q) j)) = true := kind_own (stL_row hb)
        have t1 : gIx (.own (S.length + N)) (.d (.int (a : Int))) (nS S N (F.take q)) = .ok (.own (S.length + a)) (nS S N (F.take q)) := by
          unfold nS; rw [atI_own (top _), own_at a ha]; rfl
        have t2 : gIx (.own (S.length + N)) (.d (.int (b : Int))) (stL S N fun j => if j = a then NI (nbr (F.take q) a ++ [b]) else NI (nbr (F.take q) j)) = .ok (.own (S.length + b)) (stL S N fun j => if j = a then NI (nbr (F.take q) a ++ [b]) else NI (nbr (F.take q) j)) := by
          rw [atI_own (top _), own_at b hb]; rfl
        refine ⟨_, rfl, ?_⟩
        simp [-e_seq, ED, t1, t2, k1, k2, s1, s2]
    · rintro ρ S' ⟨o4, o5, rfl, rfl⟩
      rw [show (F.map ED).length = F.length by simp, List.take_length]
      have hAl : A.length ≤ sizeLine := small (by
        have := nodup_le A (List.range N) nA (fun a ha => List.mem_range.mpr (hA a ha))
        simp at this
        omega)
      have m1 : mkOwn (evs (NI A)) (nS S N F) = .ok (.own (S.length + N + 1)) (nS S N F ++ [.lst (evs (NI A))]) := by
        rw [mkOwn_of (by simpa using hAl), nS_len]
      simp [-e_seq, m1]
      refine wps_while (ReI F N A S (.d (.list (F.map ED))) (.d (.list (NI A)))) ?_ (k := N - 0) ⟨A, 0, o4, o5, none, rfl, rfl, ⟨fun a ha => ha, nA, hA, fun a ha => .base a ha, fun j hj => by omega, fun k hk => by omega⟩, Nat.zero_le _, rfl⟩
      rintro k ρ S1 ⟨M, pl, o4, o5, o8, rfl, rfl, U, hpl, rfl⟩
      have hMN := U.len
      have qm : ∀ M : List Nat, (nS S N F ++ [SO.lst (evs (NI M))])[S.length + N + 1]? = some (.lst (evs (NI M))) := fun M => by
        rw [List.getElem?_append_right (by rw [nS_len]; exact Nat.le_refl _), nS_len]
        simp
      have qt : ∀ M : List Nat, (nS S N F ++ [SO.lst (evs (NI M))])[S.length + N]? = some (.lst ((List.range N).map fun a => EV.own (S.length + a))) := fun M => by
        rw [List.getElem?_append_left (by rw [nS_len]; omega)]
        exact stL_top
      have qr : ∀ (M : List Nat) (a : Nat), a < N → (nS S N F ++ [SO.lst (evs (NI M))])[S.length + a]? = some (.lst (evs (NI (nbr F a)))) := fun M a ha => by
        rw [List.getElem?_append_left (by rw [nS_len]; omega)]
        exact stL_row ha
      have qa : ∀ (M : List Nat) (b : Nat), M.length ≤ N → gAppend (.own (S.length + N + 1)) [.d (.int (b : Int))] (nS S N F ++ [SO.lst (evs (NI M))]) = .ok (.d .none) (nS S N F ++ [SO.lst (evs (NI (M ++ [b])))]) := fun M b hM => by
        rw [app_own (qm M) (small' (by simp; omega)), show evs (NI M) ++ [EV.d (.int (b : Int))] = evs (NI (M ++ [b])) by simp [evs, NI], List.set_append_right _ _ (by rw [nS_len]; exact Nat.le_refl _), nS_len]
        simp
      simp only [reR]
      simp [-e_seq, len_own (qm M)]
      by_cases c : pl < M.length
      · rw [if_pos c]
        have hc : M.getD pl 0 < N := U.lt _ (by rw [getD_lt c]; exact List.getElem_mem _)
        have a1 := NI_atE c
        simp [-e_seq, -List.getD_eq_getElem?_getD, atI_own (qt M), atI_own (qm M), a1, own_at _ hc, fixG_own (qr M _ hc)]
        refine wps_forG (ReJ F N A S (.d (.list (F.map ED))) (.d (.list (NI A))) o4 o5 pl (M.getD pl 0)) ?_ ⟨M, o8, rfl, rfl, U, c, rfl⟩ ?_ ?_
        · rintro k ρ S1 ⟨M', o8, rfl, rfl, U', c', e'⟩
          exact chk_own (qr M' _ hc)
        · rintro r it hit ρ S1 ⟨M', o8, rfl, rfl, U', c', e'⟩
          have hr : r < (nbr F (M.getD pl 0)).length := by
            have := (List.getElem?_eq_some_iff.mp hit).1
            simp at this
            simpa using this
          obtain ⟨b, hb⟩ : ∃ b, b = (nbr F (M.getD pl 0)).getD r 0 := ⟨_, rfl⟩
          have hit' : it = .one (.d (.int (b : Int))) := by
            rw [List.getElem?_map, evs_get, NI_get, List.getElem?_eq_getElem hr] at hit
            rw [hb, getD_at hr]
            exact (Option.some.inj hit).symm
          subst hit'
          have hbn : b ∈ nbr F (M.getD pl 0) := by rw [hb, getD_at hr]; exact List.getElem_mem _
          refine ⟨_, rfl, ?_⟩
          have hin := in_NIo (neg := true) (k := b) (qm M')
          have hM'N := U'.len
          by_cases cb : b ∈ M'
          · simp [-e_seq, reR, hin, cb]
            refine ⟨M', _, rfl, rfl, ⟨U'.inA, U'.nd, U'.lt, U'.rch, U'.done, fun k hk hk2 => ?_⟩, c', e'⟩
            by_cases hkr : k < r
            · exact U'.part k hkr hk2
            · have : k = r := by omega
              subst this
              rw [e', ← hb]
              exact cb
          · simp [-e_seq, reR, hin, cb, kind_own (qm M'), qa M' b hM'N]
            have hbN : b < N := by
              obtain ⟨e, he, ⟨h1, h2⟩ | ⟨h1, h2⟩⟩ := nbr_mem.mp hbn
              · have := hF e he; omega
              · have := hF e he; omega
            have gl : ∀ i, i < M'.length → (M' ++ [b]).getD i 0 = M'.getD i 0 := fun i hi => by simp [List.getD_eq_getElem?_getD, List.getElem?_append_left hi]
            refine ⟨M' ++ [b], _, rfl, rfl, ⟨fun a ha => List.mem_append_left _ (U'.inA a ha), ?_, ?_, ?_, ?_, ?_⟩, by simp; omega, by rw [gl pl c']; exact e'⟩
            · rw [List.nodup_append]
              exact ⟨U'.nd, by simp, by rintro x hx y hy rfl; have e := List.mem_singleton.mp hy; rw [e] at hx; exact cb hx⟩
            · intro a ha
              rcases List.mem_append.mp ha with z | z
              · exact U'.lt a z
              · rw [List.mem_singleton.mp z]; exact hbN
            · intro a ha
              rcases List.mem_append.mp ha with z | z
              · exact U'.rch a z
              · rw [List.mem_singleton.mp z]
                refine .step (M.getD pl 0) b (U'.rch _ ?_) hbn
                rw [← e', getD_lt c']
                exact List.getElem_mem _
            · intro j hj hl b' hb'
              rw [gl j (by omega)] at hb'
              exact List.mem_append_left _ (U'.done j hj (by omega) b' hb')
            · intro k hk hk2
              rw [gl pl c'] at hk2 ⊢
              by_cases hkr : k < r
              · exact List.mem_append_left _ (U'.part k hkr hk2)
              · have : k = r := by omega
                subst this
                rw [e', ← hb]
                simp
        · rintro ρ S1 ⟨M', o8, rfl, rfl, U', c', e'⟩
          have hM'N := U'.len
          rw [show ((evs (NI (nbr F (M.getD pl 0)))).map Itm.one).length = (nbr F (M.getD pl 0)).length by simp] at U'
          simp [-e_seq, reR]
          refine ⟨N - (pl + 1), by omega, M', pl + 1, o4, o5, _, rfl, rfl, ⟨U'.inA, U'.nd, U'.lt, U'.rch, fun j hj hl b hb => ?_, fun k hk => by omega⟩, by omega, rfl⟩
          by_cases cj : j < pl
          · exact U'.done j cj hl b hb
          · have : j = pl := by omega
            subst this
            obtain ⟨k, hk, rfl⟩ := List.mem_iff_getElem.mp hb
            have := U'.part k (by rw [e'] at hk; exact hk) hk
            rwa [getD_at hk] at this
      · rw [if_neg c]
        simp [-e_seq, frz_own (qm M)]
        refine ⟨M, rfl, ⟨((List.range N).map (fun a => SO.lst (evs (NI (nbr F a)))) ++ [SO.lst ((List.range N).map fun a => EV.own (S.length + a))]) ++ [.gone], ?_⟩, U.nd, U.lt, fun a => U.final (by omega) a⟩
        rw [List.set_append_right _ _ (by rw [nS_len]; exact Nat.le_refl _), nS_len]
        unfold nS stL
        simp
end
end Z
set_option maxRecDepth 100000
set_option maxHeartbeats 4000000
/-! plain: parts, sets of roads without a round, the greatest tree over a set -/
namespace Z
section
variable {N R : Nat} {E F G : List (Nat × Nat)} {K T A : List Nat} {a b x y z k : Nat}
def Con (F : List (Nat × Nat)) (x y : Nat) : Prop := ∀ P : Nat → Prop, (∀ e ∈ F, (P e.1 ↔ P e.2)) → (P x ↔ P y)
theorem Con.refl (x : Nat) : Con F x x := fun _ _ => Iff.rfl
theorem Con.symm (h : Con F x y) : Con F y x := fun P hP => (h P hP).symm
theorem Con.trans (h : Con F x y) (k : Con F y z) : Con F x z := fun P hP => (h P hP).trans (k P hP)
theorem Con.mono (h : Con F x y) (hs : ∀ e ∈ F, e ∈ G) : Con G x y := fun P hP => h P fun e he => hP e (hs e he)
theorem Con.edge {e : Nat × Nat} (h : e ∈ F) : Con F e.1 e.2 := fun P hP => hP e h
theorem con_comm : Con F x y ↔ Con F y x := ⟨Con.symm, Con.symm⟩
theorem urc_con : Urc F [a] b ↔ Con F a b := by
  constructor
  · intro h
    induction h with
    | base x hx => rw [List.mem_singleton.mp hx]; exact Con.refl _
    | step x y _ hy ih =>
      obtain ⟨e, he, ⟨h1, h2⟩ | ⟨h1, h2⟩⟩ := nbr_mem.mp hy
      · rw [← h1] at ih; rw [← h2]; exact ih.trans (Con.edge he)
      · rw [← h1] at ih; rw [← h2]; exact ih.trans (Con.edge he).symm
  · intro h
    refine (h (Urc F [a]) fun e he => ?_).mp (.base a (by simp))
    exact ⟨fun z => .step _ _ z (nbr_mem.mpr ⟨e, he, .inl ⟨rfl, rfl⟩⟩), fun z => .step _ _ z (nbr_mem.mpr ⟨e, he, .inr ⟨rfl, rfl⟩⟩)⟩
theorem con_snoc : Con (F ++ [(a, b)]) x y ↔ Con F x y ∨ (Con F x a ∧ Con F b y) ∨ (Con F x b ∧ Con F a y) := by
  have up : ∀ {u v}, Con F u v → Con (F ++ [(a, b)]) u v := fun h => h.mono fun e he => List.mem_append_left _ he
  have ed : Con (F ++ [(a, b)]) a b := Con.edge (e := (a, b)) (by simp)
  constructor
  · intro h
    refine (h (fun z => Con F x z ∨ (Con F x a ∧ Con F b z) ∨ (Con F x b ∧ Con F a z)) fun e he => ?_).mp (.inl (Con.refl _))
    rcases List.mem_append.mp he with q | q
    · have c := Con.edge q
      constructor
      · rintro (h | ⟨h, g⟩ | ⟨h, g⟩)
        · exact .inl (h.trans c)
        · exact .inr (.inl ⟨h, g.trans c⟩)
        · exact .inr (.inr ⟨h, g.trans c⟩)
      · rintro (h | ⟨h, g⟩ | ⟨h, g⟩)
        · exact .inl (h.trans c.symm)
        · exact .inr (.inl ⟨h, g.trans c.symm⟩)
        · exact .inr (.inr ⟨h, g.trans c.symm⟩)
    · rw [List.mem_singleton.mp q]
      constructor
      · rintro (h | ⟨h, g⟩ | ⟨h, g⟩)
        · exact .inr (.inl ⟨h, Con.refl _⟩)
        · exact .inr (.inl ⟨h, Con.refl _⟩)
        · exact .inl h
      · rintro (h | ⟨h, g⟩ | ⟨h, g⟩)
        · exact .inr (.inr ⟨h, Con.refl _⟩)
        · exact .inl h
        · exact .inr (.inr ⟨h, Con.refl _⟩)
  · rintro (h | ⟨h, g⟩ | ⟨h, g⟩)
    · exact up h
    · exact (up h).trans (ed.trans (up g))
    · exact (up h).trans (ed.symm.trans (up g))
/-! ### how many parts -/
def low (F : List (Nat × Nat)) (x : Nat) : Prop := ∀ y, y < x → ¬ Con F y x
noncomputable def lowB (F : List (Nat × Nat)) (x : Nat) : Bool := @decide (low F x) (Classical.propDecidable _)
theorem lowB_iff : lowB F x = true ↔ low F x := by unfold lowB; simp
noncomputable def cn (F : List (Nat × Nat)) (N : Nat) : Nat := (List.range N).countP (lowB F)
theorem low_ex (F : List (Nat × Nat)) (x : Nat) : ∃ r, r ≤ x ∧ Con F r x ∧ low F r := by
  induction x using Nat.strongRecOn with
  | _ x ih =>
    by_cases h : ∃ y, y < x ∧ Con F y x
    · obtain ⟨y, hy, c⟩ := h
      obtain ⟨r, h1, h2, h3⟩ := ih y hy
      exact ⟨r, by omega, h2.trans c, h3⟩
    · exact ⟨x, Nat.le_refl _, Con.refl _, fun y hy c => h ⟨y, hy, c⟩⟩
theorem low_le {r s : Nat} (h : low F r) (c : Con F s r) : r ≤ s := by
  by_cases q : s < r
  · exact absurd c (h s q)
  · omega
theorem low_uniq {r s : Nat} (h : low F r) (k : low F s) (c : Con F r s) : r = s := Nat.le_antisymm (low_le h c.symm) (low_le k c)
theorem low_congr (h : ∀ x y, Con F x y ↔ Con G x y) : low F x ↔ low G x := by unfold low; simp only [h]
theorem cn_congr (h : ∀ x y, Con F x y ↔ Con G x y) : cn F N = cn G N := List.countP_congr fun x _ => by rw [lowB_iff, lowB_iff, low_congr h]
theorem cn_same (h : Con F a b) : cn (F ++ [(a, b)]) N = cn F N := cn_congr fun x y => by
  rw [con_snoc]
  constructor
  · rintro (g | ⟨g, l⟩ | ⟨g, l⟩)
    · exact g
    · exact g.trans (h.trans l)
    · exact g.trans (h.symm.trans l)
  · exact .inl
theorem countP_one {q : Nat → Bool} {c : Nat} : ∀ {l : List Nat}, l.Nodup → c ∈ l → q c = true → l.countP (fun x => q x && decide (x ≠ c)) + 1 = l.countP q
  | [], _, h, _ => by cases h
  | a :: l, nd, h, hq => by
    have hn := List.nodup_cons.mp nd
    rw [List.countP_cons, List.countP_cons]
    by_cases e : a = c
    · subst e
      have : l.countP (fun x => q x && decide (x ≠ a)) = l.countP q := List.countP_congr fun x hx => by
        have : x ≠ a := fun z => hn.1 (z ▸ hx)
        simp [this]
      rw [this]
      simp [hq]
    · have hc : c ∈ l := by
        rcases List.mem_cons.mp h with z | z
        · exact absurd z.symm e
        · exact z
      have ih := countP_one hn.2 hc hq
      simp only [ne_eq, e, not_false_eq_true, decide_true, Bool.and_true] at ih ⊢
      omega
theorem cn_new (ha : a < N) (hb : b < N) (h : ¬ Con F a b) : cn (F ++ [(a, b)]) N + 1 = cn F N := by
  obtain ⟨ra, a1, a2, a3⟩ := low_ex F a
  obtain ⟨rb, b1, b2, b3⟩ := low_ex F b
  have hne : ra ≠ rb := fun e => h (a2.symm.trans (by rw [e]; exact b2))
  obtain ⟨c, hc⟩ : ∃ c, c = max ra rb := ⟨_, rfl⟩
  have key : ∀ x, low (F ++ [(a, b)]) x ↔ low F x ∧ x ≠ c := by
    intro x
    constructor
    · intro hl
      refine ⟨fun y hy q => hl y hy (con_snoc.mpr (.inl q)), fun e => ?_⟩
      by_cases q : ra < rb
      · refine hl ra (by omega) (con_snoc.mpr (.inr (.inl ⟨a2, ?_⟩)))
        rw [e, hc, Nat.max_eq_right (by omega)]; exact b2.symm
      · refine hl rb (by omega) (con_snoc.mpr (.inr (.inr ⟨b2, ?_⟩)))
        rw [e, hc, Nat.max_eq_left (by omega)]; exact a2.symm
    · rintro ⟨hl, hx⟩ y hy q
      rcases con_snoc.mp q with q | ⟨q1, q2⟩ | ⟨q1, q2⟩
      · exact hl y hy q
      · have e := low_uniq b3 hl (b2.trans q2)
        have := low_le a3 (q1.trans a2.symm)
        omega
      · have e := low_uniq a3 hl (a2.trans q2)
        have := low_le b3 (q1.trans b2.symm)
        omega
  have hcl : low F c := by
    rw [hc]
    by_cases q : ra < rb
    · rw [Nat.max_eq_right (by omega)]; exact b3
    · rw [Nat.max_eq_left (by omega)]; exact a3
  have h1 := countP_one (q := lowB F) (c := c) (l := List.range N) List.nodup_range (List.mem_range.mpr (by omega)) (lowB_iff.mpr hcl)
  have h2 : cn (F ++ [(a, b)]) N = (List.range N).countP (fun x => lowB F x && decide (x ≠ c)) := List.countP_congr fun x _ => by
    rw [lowB_iff, key, Bool.and_eq_true, lowB_iff, decide_eq_true_eq]
  rw [h2]; exact h1
theorem cn_nil : cn [] N = N := by
  unfold cn
  rw [List.countP_eq_length.mpr fun x _ => lowB_iff.mpr fun y hy c => ?_, List.length_range]
  have := (c (fun z => z = y) (by simp)).mp rfl
  omega
theorem cn_ge (hF : ∀ e ∈ F, e.1 < N ∧ e.2 < N) : N ≤ F.length + cn F N := by
  obtain ⟨n, hn⟩ : ∃ n, n = F.length := ⟨_, rfl⟩
  induction n generalizing F with
  | zero => rw [List.length_eq_zero_iff.mp hn.symm, cn_nil]; omega
  | succ n ih =>
    have hne : F ≠ [] := fun e => by rw [e] at hn; cases hn
    have e := List.dropLast_concat_getLast hne
    obtain ⟨⟨a, b⟩, hab⟩ : ∃ ab, ab = F.getLast hne := ⟨_, rfl⟩
    rw [← hab] at e
    have h1 := ih (F := F.dropLast) (fun e he => hF e (List.dropLast_subset _ he)) (by rw [List.length_dropLast]; omega)
    have h2 := hF (a, b) (by rw [hab]; exact List.getLast_mem hne)
    have hl : F.length = F.dropLast.length + 1 := by rw [List.length_dropLast]; omega
    have : cn F N + 1 ≥ cn F.dropLast N := by
      by_cases c : Con F.dropLast a b
      · have := cn_same (N := N) c
        rw [e] at this; omega
      · have := cn_new (N := N) h2.1 h2.2 c
        rw [e] at this; omega
    omega
/-! ### sets of roads without a round -/
def Fk (E : List (Nat × Nat)) (K : List Nat) : List (Nat × Nat) := K.map fun k => E.getD k (0, 0)
abbrev e1 (E : List (Nat × Nat)) (k : Nat) : Nat := (E.getD k (0, 0)).1
abbrev e2 (E : List (Nat × Nat)) (k : Nat) : Nat := (E.getD k (0, 0)).2
theorem Fk_snoc : Fk E (K ++ [k]) = Fk E K ++ [(e1 E k, e2 E k)] := by simp [Fk, e1, e2]
theorem Fk_mem {e : Nat × Nat} : e ∈ Fk E K ↔ ∃ k ∈ K, E.getD k (0, 0) = e := by unfold Fk; rw [List.mem_map]
theorem Fk_sub (h : ∀ k ∈ K, k ∈ T) : ∀ e ∈ Fk E K, e ∈ Fk E T := fun e he => by
  obtain ⟨k, hk, q⟩ := Fk_mem.mp he
  exact Fk_mem.mpr ⟨k, h k hk, q⟩
theorem con_sub (h : ∀ k ∈ K, k ∈ T) (c : Con (Fk E K) x y) : Con (Fk E T) x y := c.mono (Fk_sub h)
theorem con_mem (h : k ∈ K) : Con (Fk E K) (e1 E k) (e2 E k) := Con.edge (Fk_mem.mpr ⟨k, h, rfl⟩)
/-- the ends are villages -/
def EOk (E : List (Nat × Nat)) (N : Nat) : Prop := ∀ k, k < E.length → e1 E k < N ∧ e2 E k < N
def Lt (E : List (Nat × Nat)) (K : List Nat) : Prop := ∀ k ∈ K, k < E.length
theorem Fk_lt (hE : EOk E N) (h : Lt E K) : ∀ e ∈ Fk E K, e.1 < N ∧ e.2 < N := fun e he => by
  obtain ⟨k, hk, rfl⟩ := Fk_mem.mp he
  exact hE k (h k hk)
def Ac (E : List (Nat × Nat)) (N : Nat) (K : List Nat) : Prop := K.length + cn (Fk E K) N = N
theorem Fk_len : (Fk E K).length = K.length := by simp [Fk]
theorem Ac.nil : Ac E N [] := by unfold Ac; rw [show Fk E [] = [] from rfl, cn_nil]; simp
theorem Ac.perm (p : K.Perm T) (h : Ac E N K) : Ac E N T := by
  unfold Ac at h ⊢
  rw [← p.length_eq, ← cn_congr (F := Fk E K) (G := Fk E T) fun x y => ⟨con_sub fun k hk => p.mem_iff.mp hk, con_sub fun k hk => p.mem_iff.mpr hk⟩]
  exact h
theorem Ac.snoc (hE : EOk E N) (hk : k < E.length) (h : Ac E N K) (c : ¬ Con (Fk E K) (e1 E k) (e2 E k)) : Ac E N (K ++ [k]) := by
  unfold Ac at h ⊢
  have := cn_new (N := N) (hE k hk).1 (hE k hk).2 c
  rw [Fk_snoc, List.length_append, List.length_singleton]
  omega
theorem Ac.init (hE : EOk E N) (hl : Lt E (K ++ [k])) (h : Ac E N (K ++ [k])) : Ac E N K ∧ ¬ Con (Fk E K) (e1 E k) (e2 E k) := by
  unfold Ac at h ⊢
  rw [Fk_snoc, List.length_append, List.length_singleton] at h
  have hK : Lt E K := fun j hj => hl j (List.mem_append_left _ hj)
  have h1 := cn_ge (Fk_lt hE hK)
  rw [Fk_len] at h1
  have hk : k < E.length := hl k (by simp)
  by_cases c : Con (Fk E K) (e1 E k) (e2 E k)
  · rw [cn_same c] at h
    omega
  · have := cn_new (N := N) (hE k hk).1 (hE k hk).2 c
    exact ⟨by omega, c⟩
theorem Ac.left (hE : EOk E N) : ∀ {L : List Nat}, Lt E (K ++ L) → Ac E N (K ++ L) → Ac E N K := by
  intro L
  obtain ⟨n, hn⟩ : ∃ n, n = L.length := ⟨_, rfl⟩
  induction n generalizing L with
  | zero => intro _ h; rw [List.length_eq_zero_iff.mp hn.symm, List.append_nil] at h; exact h
  | succ n ih =>
    intro hl h
    have hne : L ≠ [] := fun e => by rw [e] at hn; cases hn
    have e := List.dropLast_concat_getLast hne
    rw [← e, ← List.append_assoc] at hl h
    exact ih (L := L.dropLast) (by rw [List.length_dropLast]; omega) (fun j hj => hl j (List.mem_append_left _ hj)) (h.init hE hl).1
theorem perm_sub : ∀ {K T : List Nat}, K.Nodup → (∀ k ∈ K, k ∈ T) → ∃ L, T.Perm (K ++ L)
  | [], T, _, _ => ⟨T, .refl _⟩
  | k :: K, T, nd, h => by
    have hn := List.nodup_cons.mp nd
    have h1 := List.perm_cons_erase (h k (by simp))
    obtain ⟨L, hL⟩ := perm_sub (K := K) (T := T.erase k) hn.2 fun j hj => by
      have hjk : j ≠ k := fun e => hn.1 (e ▸ hj)
      exact (List.mem_erase_of_ne hjk).mpr (h j (List.mem_cons_of_mem _ hj))
    exact ⟨L, h1.trans (hL.cons k)⟩
theorem Ac.sub (hE : EOk E N) (hl : Lt E T) (h : Ac E N T) (nd : K.Nodup) (hs : ∀ k ∈ K, k ∈ T) : Ac E N K := by
  obtain ⟨L, p⟩ := perm_sub nd hs
  exact Ac.left hE (L := L) (fun j hj => hl j (p.mem_iff.mpr hj)) (h.perm p)
/-- without one road -/
def wo (T : List Nat) (k : Nat) : List Nat := T.filter fun j => decide (j ≠ k)
theorem wo_mem {j : Nat} : j ∈ wo T k ↔ j ∈ T ∧ j ≠ k := by simp [wo]
theorem Ac.bridge (hE : EOk E N) (hl : Lt E T) (h : Ac E N T) (nd : T.Nodup) (hk : k ∈ T) : ¬ Con (Fk E (wo T k)) (e1 E k) (e2 E k) := by
  have p : T.Perm (wo T k ++ [k]) := by
    have h1 := List.perm_cons_erase hk
    rw [nd.erase_eq_filter] at h1
    have h2 : (T.filter fun x => x != k) = wo T k := List.filter_congr fun x _ => by
      by_cases e : x = k <;> simp [e]
    rw [h2] at h1
    exact h1.trans (List.perm_append_comm (l₁ := [k]) (l₂ := wo T k))
  exact ((h.perm p).init hE fun j hj => hl j (p.mem_iff.mpr hj)).2
/-! ### the roads that stand for a road; the last ones -/
noncomputable def conB (F : List (Nat × Nat)) (x y : Nat) : Bool := @decide (Con F x y) (Classical.propDecidable _)
theorem conB_iff : conB F x y = true ↔ Con F x y := by unfold conB; simp
theorem conB_false : conB F x y = false ↔ ¬ Con F x y := by rw [← conB_iff]; simp
noncomputable def cutR (E : List (Nat × Nat)) (T : List Nat) (k : Nat) : List Nat := (List.range E.length).filter fun j => !conB (Fk E (wo T k)) (e1 E j) (e2 E j)
theorem cutR_mem {j : Nat} : j ∈ cutR E T k ↔ j < E.length ∧ ¬ Con (Fk E (wo T k)) (e1 E j) (e2 E j) := by
  unfold cutR
  rw [List.mem_filter, List.mem_range, Bool.not_eq_true', conB_false]
def Lst (E : List (Nat × Nat)) (T : List Nat) (k : Nat) : Prop := ∀ j ∈ cutR E T k, j ≤ k
/-! ### the tree over a set, from the last road on -/
noncomputable def grd (E : List (Nat × Nat)) (F : List Nat) : Nat → List Nat
  | 0 => F
  | j + 1 => if conB (Fk E (grd E F j)) (e1 E (E.length - 1 - j)) (e2 E (E.length - 1 - j)) = true then grd E F j else grd E F j ++ [E.length - 1 - j]
theorem grd_sub {j : Nat} : ∀ k ∈ grd E K j, k ∈ grd E K (j + 1) := fun k hk => by
  unfold grd
  split
  · exact hk
  · exact List.mem_append_left _ hk
theorem grd_le {i j : Nat} (h : i ≤ j) : ∀ k ∈ grd E K i, k ∈ grd E K j := by
  induction h with
  | refl => exact fun k hk => hk
  | step _ ih => exact fun k hk => grd_sub k (ih k hk)
theorem grd_old {j : Nat} : ∀ k ∈ grd E K j, k ∈ K ∨ (E.length ≤ k + j ∧ k < E.length ∧ j ≤ E.length ∨ E.length < j) := by
  induction j with
  | zero => exact fun k hk => .inl hk
  | succ j ih =>
    intro k hk
    unfold grd at hk
    split at hk
    · rcases ih k hk with h | h
      · exact .inl h
      · exact .inr (by omega)
    · rcases List.mem_append.mp hk with h | h
      · rcases ih k h with h | h
        · exact .inl h
        · exact .inr (by omega)
      · have := List.mem_singleton.mp h
        exact .inr (by omega)
structure Grd (E : List (Nat × Nat)) (N : Nat) (K : List Nat) (j : Nat) (M : List Nat) : Prop where
  ac : Ac E N M
  nd : M.Nodup
  lt : Lt E M
  ge : ∀ k ∈ K, k ∈ M
  old : ∀ k ∈ M, k ∈ K ∨ E.length ≤ k + j
  con : ∀ k, k < E.length → E.length ≤ k + j → Con (Fk E M) (e1 E k) (e2 E k)
theorem grd_ok (hE : EOk E N) (ac : Ac E N K) (nd : K.Nodup) (lt : Lt E K) : ∀ j, j ≤ E.length → Grd E N K j (grd E K j)
  | 0, _ => ⟨ac, nd, lt, fun _ h => h, fun k h => .inl h, fun k h1 h2 => by omega⟩
  | j + 1, hj => by
    have ih := grd_ok hE ac nd lt j (by omega)
    obtain ⟨r, hr⟩ : ∃ r, r = E.length - 1 - j := ⟨_, rfl⟩
    unfold grd
    rw [← hr]
    split
    · rename_i c
      rw [conB_iff] at c
      refine ⟨ih.ac, ih.nd, ih.lt, ih.ge, fun k hk => (ih.old k hk).imp id fun _ => by omega, fun k h1 h2 => ?_⟩
      by_cases e : k = r
      · subst e; exact c
      · exact ih.con k h1 (by omega)
    · rename_i c
      rw [conB_iff] at c
      refine ⟨ih.ac.snoc hE (by omega) c, ?_, ?_, fun k hk => List.mem_append_left _ (ih.ge k hk), fun k hk => ?_, fun k h1 h2 => ?_⟩
      · rw [List.nodup_append]
        refine ⟨ih.nd, by simp, ?_⟩
        rintro x hx y hy rfl
        rw [List.mem_singleton.mp hy] at hx
        exact c (con_mem hx)
      · intro k hk
        rcases List.mem_append.mp hk with h | h
        · exact ih.lt k h
        · rw [List.mem_singleton.mp h]; omega
      · rcases List.mem_append.mp hk with h | h
        · exact (ih.old k h).imp id fun _ => by omega
        · rw [List.mem_singleton.mp h]; exact .inr (by omega)
      · by_cases e : k = r
        · subst e; exact con_mem (by simp)
        · exact con_sub (fun _ h => List.mem_append_left _ h) (ih.con k h1 (by omega))
/-- put in order -/
def ordT (R : Nat) (M : List Nat) : List Nat := (List.range R).filter fun k => decide (k ∈ M)
theorem ordT_mem : k ∈ ordT R A ↔ k < R ∧ k ∈ A := by simp [ordT]
theorem ordT_nd : (ordT R A).Nodup := List.nodup_range.filter _
theorem nodup_perm : ∀ {K T : List Nat}, K.Nodup → T.Nodup → (∀ k, k ∈ K ↔ k ∈ T) → K.Perm T
  | [], T, _, _, h => by
    cases T with
    | nil => exact .refl _
    | cons t T => exact absurd ((h t).mpr (by simp)) (by simp)
  | k :: K, T, nK, nT, h => by
    have hn := List.nodup_cons.mp nK
    have hk : k ∈ T := (h k).mp (by simp)
    refine ((nodup_perm hn.2 (nT.erase k) fun j => ?_).cons k).trans (List.perm_cons_erase hk).symm
    rw [nT.mem_erase_iff]
    constructor
    · exact fun hj => ⟨fun e => hn.1 (e ▸ hj), (h j).mp (List.mem_cons_of_mem _ hj)⟩
    · rintro ⟨h1, h2⟩
      rcases List.mem_cons.mp ((h j).mpr h2) with e | e
      · exact absurd e h1
      · exact e
noncomputable def tov (E : List (Nat × Nat)) (K : List Nat) : List Nat := ordT E.length (grd E K E.length)
theorem tov_mem (G : Grd E N K E.length (grd E K E.length)) : k ∈ tov E K ↔ k ∈ grd E K E.length := by
  unfold tov
  rw [ordT_mem]
  exact ⟨fun h => h.2, fun h => ⟨G.lt k h, h⟩⟩
theorem tov_perm (G : Grd E N K E.length (grd E K E.length)) : (grd E K E.length).Perm (tov E K) := nodup_perm G.nd ordT_nd fun k => (tov_mem G).symm
/-- what is put in is the last one of its cut -/
theorem tov_last (hE : EOk E N) (ac : Ac E N K) (nd : K.Nodup) (lt : Lt E K) (hk : k ∈ tov E K) (hn : k ∉ K) : Lst E (tov E K) k := by
  have G := grd_ok hE ac nd lt E.length (Nat.le_refl _)
  intro j hj
  obtain ⟨hj1, hj2⟩ := cutR_mem.mp hj
  by_cases h : j ≤ k
  · exact h
  · exfalso
    have G2 := grd_ok hE ac nd lt (E.length - j) (by omega)
    refine hj2 (con_sub (fun i hi => ?_) (G2.con j hj1 (by omega)))
    rw [wo_mem, tov_mem G]
    refine ⟨grd_le (by omega) i hi, fun e => ?_⟩
    subst e
    rcases G2.old i hi with q | q
    · exact hn q
    · omega
theorem tov_self (hE : EOk E N) (ac : Ac E N K) (nd : K.Nodup) (lt : Lt E K) (hk : k ∈ tov E K) : k ∈ cutR E (tov E K) k := by
  have G := grd_ok hE ac nd lt E.length (Nat.le_refl _)
  have p := tov_perm G
  refine cutR_mem.mpr ⟨G.lt k ((tov_mem G).mp hk), (G.ac.perm p).bridge hE (fun j hj => G.lt j (p.mem_iff.mpr hj)) ordT_nd hk⟩
/-- trees -/
structure TreeR (E : List (Nat × Nat)) (N : Nat) (T : List Nat) : Prop where
  ac : Ac E N T
  nd : T.Nodup
  lt : Lt E T
  con : ∀ x y, x < N → y < N → Con (Fk E T) x y
theorem TreeR.self (hE : EOk E N) (t : TreeR E N T) (hk : k ∈ T) : k ∈ cutR E T k := cutR_mem.mpr ⟨t.lt k hk, t.ac.bridge hE t.lt t.nd hk⟩
theorem first_cross (c0 : ¬ Con (Fk E A) x y) : ∀ {L : List Nat}, Con (Fk E (A ++ L)) x y → ∃ (L1 L2 : List Nat) (e : Nat), L = L1 ++ e :: L2 ∧ ¬ Con (Fk E (A ++ L1)) x y ∧ Con (Fk E (A ++ L1 ++ [e])) x y := by
  intro L
  obtain ⟨n, hn⟩ : ∃ n, n = L.length := ⟨_, rfl⟩
  induction n generalizing L with
  | zero => intro h; rw [List.length_eq_zero_iff.mp hn.symm, List.append_nil] at h; exact absurd h c0
  | succ n ih =>
    intro h
    have hne : L ≠ [] := fun e => by rw [e] at hn; cases hn
    have e := List.dropLast_concat_getLast hne
    by_cases c : Con (Fk E (A ++ L.dropLast)) x y
    · obtain ⟨L1, L2, f, e3, c1, c2⟩ := ih (L := L.dropLast) (by rw [List.length_dropLast]; omega) c
      refine ⟨L1, L2 ++ [L.getLast hne], f, ?_, c1, c2⟩
      refine e.symm.trans ?_
      rw [e3]; simp
    · refine ⟨L.dropLast, [], L.getLast hne, e.symm, c, ?_⟩
      rw [List.append_assoc, e]; exact h
theorem tov_tree (hE : EOk E N) (t : TreeR E N T) (nd : K.Nodup) (hs : ∀ k ∈ K, k ∈ T) (hl : ∀ k ∈ T, k ∉ K → Lst E T k) : ∀ j, j ≤ E.length → ∀ k, k ∈ grd E K j ↔ k ∈ K ∨ (k ∈ T ∧ E.length ≤ k + j)
  | 0, _, k => by
    unfold grd
    constructor
    · exact .inl
    · rintro (h | ⟨h1, h2⟩)
      · exact h
      · have := t.lt k h1; omega
  | j + 1, hj, k => by
    have ih := tov_tree hE t nd hs hl j (by omega)
    obtain ⟨r, hr⟩ : ∃ r, r = E.length - 1 - j := ⟨_, rfl⟩
    have hrE : r < E.length := by omega
    have sub : ∀ i ∈ grd E K j, i ∈ T := fun i hi => by
      rcases (ih i).mp hi with h | h
      · exact hs i h
      · exact h.1
    have ac := t.ac.sub hE t.lt nd hs
    have G := grd_ok hE ac nd (fun k hk => t.lt k (hs k hk)) j (by omega)
    unfold grd
    rw [← hr]
    have key : conB (Fk E (grd E K j)) (e1 E r) (e2 E r) = true ↔ ¬ (r ∈ T ∧ r ∉ K) := by
      rw [conB_iff]
      constructor
      · rintro c ⟨h1, h2⟩
        refine t.ac.bridge hE t.lt t.nd h1 (con_sub (fun i hi => ?_) c)
        rw [wo_mem]
        refine ⟨sub i hi, fun e => ?_⟩
        subst e
        rcases (ih i).mp hi with q | q
        · exact h2 q
        · omega
      · intro h
        by_cases hK : r ∈ K
        · exact con_mem ((ih r).mpr (.inl hK))
        · have hT : r ∉ T := fun z => h ⟨z, hK⟩
          by_cases c : Con (Fk E (grd E K j)) (e1 E r) (e2 E r)
          · exact c
          · exfalso
            obtain ⟨L, p⟩ := perm_sub G.nd sub
            have hc := con_sub (E := E) (T := grd E K j ++ L) (fun i hi => p.mem_iff.mp hi) (t.con _ _ (hE r hrE).1 (hE r hrE).2)
            obtain ⟨L1, L2, f, eL, c1, c2⟩ := first_cross c hc
            have ndp : (grd E K j ++ L).Nodup := p.nodup_iff.mp t.nd
            have hfL : f ∈ L := by rw [eL]; simp
            have hfT : f ∈ T := p.mem_iff.mpr (List.mem_append_right _ hfL)
            have hfM : f ∉ grd E K j := fun z => (List.nodup_append.mp ndp).2.2 f z f hfL rfl
            have hfK : f ∉ K := fun z => hfM ((ih f).mpr (.inl z))
            have hfr : f < r := by
              have h1 : ¬ (E.length ≤ f + j) := fun z => hfM ((ih f).mpr (.inr ⟨hfT, z⟩))
              have h2 : f ≠ r := fun z => hT (z ▸ hfT)
              omega
            have hsub : ∀ i ∈ grd E K j ++ L1, i ∈ wo T f := fun i hi => by
              rw [wo_mem]
              have h1 : i ∈ grd E K j ++ L := by
                rcases List.mem_append.mp hi with q | q
                · exact List.mem_append_left _ q
                · exact List.mem_append_right _ (by rw [eL]; exact List.mem_append_left _ q)
              refine ⟨p.mem_iff.mpr h1, fun e => ?_⟩
              subst e
              rcases List.mem_append.mp hi with q | q
              · exact hfM q
              · rw [eL] at ndp
                have := (List.nodup_append.mp (List.nodup_append.mp ndp).2.1).2.2 i q i (by simp)
                exact this rfl
            have br := t.ac.bridge hE t.lt t.nd hfT
            have hcut : r ∈ cutR E T f := by
              refine cutR_mem.mpr ⟨hrE, fun z => ?_⟩
              rw [Fk_snoc] at c2
              rcases con_snoc.mp c2 with q | ⟨q1, q2⟩ | ⟨q1, q2⟩
              · exact c1 q
              · exact br ((con_sub hsub q1).symm.trans (z.trans (con_sub hsub q2).symm))
              · exact br ((con_sub hsub q2).trans (z.symm.trans (con_sub hsub q1)))
            have := hl f hfT hfK r hcut
            omega
    split
    · rename_i c
      have c' := key.mp c
      rw [ih k]
      constructor
      · rintro (h | ⟨h1, h2⟩)
        · exact .inl h
        · exact .inr ⟨h1, by omega⟩
      · rintro (h | ⟨h1, h2⟩)
        · exact .inl h
        · by_cases e : k = r
          · subst e
            by_cases hK : k ∈ K
            · exact .inl hK
            · exact absurd ⟨h1, hK⟩ c'
          · exact .inr ⟨h1, by omega⟩
    · rename_i c
      have c' : r ∈ T ∧ r ∉ K := Classical.byContradiction fun z => c (key.mpr z)
      rw [List.mem_append, ih k, List.mem_singleton]
      constructor
      · rintro ((h | ⟨h1, h2⟩) | h)
        · exact .inl h
        · exact .inr ⟨h1, by omega⟩
        · subst h; exact .inr ⟨c'.1, by omega⟩
      · rintro (h | ⟨h1, h2⟩)
        · exact .inl (.inl h)
        · by_cases e : k = r
          · exact .inr e
          · exact .inl (.inr ⟨h1, by omega⟩)
end
end Z
set_option maxRecDepth 100000
set_option maxHeartbeats 4000000
/-! plain: labels, all sets of roads, how many have one tree over them -/
namespace Z
open PySem PySem.Spec PyProof.Rows L2
section
variable {N R : Nat} {E F G : List (Nat × Nat)} {K T A : List Nat} {a b x y z k : Nat}
def labS (l : Nat → Nat) (e : Nat × Nat) : Nat → Nat := fun x => if l x = l e.2 then l e.1 else l x
def labF (F : List (Nat × Nat)) : Nat → Nat := F.foldl labS id
theorem labF_snoc {e : Nat × Nat} : labF (F ++ [e]) = labS (labF F) e := by simp [labF]
theorem lab_con (F : List (Nat × Nat)) : ∀ x y, labF F x = labF F y ↔ Con F x y := by
  obtain ⟨n, hn⟩ : ∃ n, n = F.length := ⟨_, rfl⟩
  induction n generalizing F with
  | zero =>
    rw [List.length_eq_zero_iff.mp hn.symm]
    intro x y
    constructor
    · intro h
      have : x = y := h
      rw [this]; exact Con.refl _
    · intro h
      exact ((h (fun z => x = z) (by simp)).mp rfl)
  | succ n ih =>
    have hne : F ≠ [] := fun e => by rw [e] at hn; cases hn
    have e := List.dropLast_concat_getLast hne
    obtain ⟨⟨a, b⟩, hab⟩ : ∃ ab, ab = F.getLast hne := ⟨_, rfl⟩
    rw [← hab] at e
    have h1 := ih F.dropLast (by rw [List.length_dropLast]; omega)
    intro x y
    rw [← e, labF_snoc, con_snoc]
    unfold labS
    simp only [← h1]
    by_cases c1 : labF F.dropLast x = labF F.dropLast b
    · by_cases c2 : labF F.dropLast y = labF F.dropLast b
      · simp [c1, c2]
      · rw [if_pos c1, if_neg c2]
        constructor
        · intro h; exact .inr (.inr ⟨c1, h⟩)
        · rintro (h | ⟨h, g⟩ | ⟨h, g⟩)
          · exact absurd (h.symm.trans c1) c2
          · exact absurd g.symm c2
          · exact g
    · by_cases c2 : labF F.dropLast y = labF F.dropLast b
      · rw [if_neg c1, if_pos c2]
        constructor
        · intro h; exact .inr (.inl ⟨h, c2.symm⟩)
        · rintro (h | ⟨h, g⟩ | ⟨h, g⟩)
          · exact absurd (h.trans c2) c1
          · exact h
          · exact absurd h c1
      · rw [if_neg c1, if_neg c2]
        constructor
        · exact .inl
        · rintro (h | ⟨h, g⟩ | ⟨h, g⟩)
          · exact h
          · exact absurd g.symm c2
          · exact absurd h c1
theorem lab_lt (F : List (Nat × Nat)) (hF : ∀ e ∈ F, e.1 < N ∧ e.2 < N) : ∀ x, x < N → labF F x < N := by
  obtain ⟨n, hn⟩ : ∃ n, n = F.length := ⟨_, rfl⟩
  induction n generalizing F with
  | zero => rw [List.length_eq_zero_iff.mp hn.symm]; exact fun x hx => hx
  | succ n ih =>
    have hne : F ≠ [] := fun e => by rw [e] at hn; cases hn
    have e := List.dropLast_concat_getLast hne
    have h1 := ih F.dropLast (fun e he => hF e (List.dropLast_subset _ he)) (by rw [List.length_dropLast]; omega)
    intro x hx
    rw [← e, labF_snoc]
    unfold labS
    split
    · exact h1 _ (hF _ (List.getLast_mem hne)).1
    · exact h1 x hx
/-- the least village of the part -/
def mi (F : List (Nat × Nat)) (N x : Nat) : Nat := ((List.range N).map (labF F)).idxOf (labF F x)
theorem mi_ok (hx : x < N) : mi F N x < N ∧ Con F (mi F N x) x ∧ low F (mi F N x) := by
  have hm : labF F x ∈ (List.range N).map (labF F) := List.mem_map.mpr ⟨x, List.mem_range.mpr hx, rfl⟩
  have hl : mi F N x < ((List.range N).map (labF F)).length := List.idxOf_lt_length_iff.mpr hm
  have h1 : ((List.range N).map (labF F))[mi F N x] = labF F x := List.getElem_idxOf hl
  rw [List.length_map, List.length_range] at hl
  have h2 : labF F (mi F N x) = labF F x := by simpa using h1
  refine ⟨hl, (lab_con F _ _).mp h2, fun y hy c => ?_⟩
  have h3 : labF F y = labF F x := ((lab_con F _ _).mpr c).trans h2
  have h4 : y < ((List.range N).map (labF F)).idxOf (labF F x) := hy
  have := List.not_of_lt_findIdx h4
  simp [h3] at this
theorem mi_eq (hx : x < N) (hy : y < N) : mi F N x = mi F N y ↔ Con F x y := by
  obtain ⟨a1, a2, a3⟩ := mi_ok (F := F) hx
  obtain ⟨b1, b2, b3⟩ := mi_ok (F := F) hy
  constructor
  · intro h; rw [h] at a2; exact a2.symm.trans b2
  · intro h; exact low_uniq a3 b3 (a2.trans (h.trans b2.symm))
theorem mi_low (hx : x < N) : mi F N x = x ↔ low F x := by
  obtain ⟨a1, a2, a3⟩ := mi_ok (F := F) hx
  exact ⟨fun h => h ▸ a3, fun h => low_uniq a3 h a2⟩
def labs (F : List (Nat × Nat)) (N : Nat) : List Nat := (List.range N).map (mi F N)
/-! ### a dict's keys -/
theorem kput_in {kvs : List (Key × PyData)} {k : Key} (d : PyData) (h : k ∈ kvs.map (·.1)) : (kput kvs k d).map (·.1) = kvs.map (·.1) := by
  unfold kput
  have e : (kvs.any fun kv => decide (kv.1 = k)) = true := by simpa using h
  rw [if_pos e, List.map_map]
  refine List.map_congr_left fun p _ => ?_
  by_cases q : p.1 = k <;> simp [q]
theorem kput_out {kvs : List (Key × PyData)} {k : Key} (d : PyData) (h : k ∉ kvs.map (·.1)) : (kput kvs k d).map (·.1) = kvs.map (·.1) ++ [k] := by
  unfold kput
  have e : ¬ (kvs.any fun kv => decide (kv.1 = k)) = true := fun z => h (by simpa using z)
  rw [if_neg e]; simp
theorem kmerge_keys : ∀ (ps acc : List (Key × PyData)), (acc.map (·.1)).Nodup → ((ps.foldl (fun acc p => kput acc p.1 p.2) acc).map (·.1)).Nodup ∧ ∀ k, k ∈ (ps.foldl (fun acc p => kput acc p.1 p.2) acc).map (·.1) ↔ k ∈ acc.map (·.1) ∨ k ∈ ps.map (·.1)
  | [], acc, nd => ⟨nd, fun k => by simp⟩
  | p :: ps, acc, nd => by
    by_cases c : p.1 ∈ acc.map (·.1)
    · have hk := kput_in p.2 c
      obtain ⟨h1, h2⟩ := kmerge_keys ps (kput acc p.1 p.2) (by rw [hk]; exact nd)
      refine ⟨h1, fun k => ?_⟩
      rw [List.foldl_cons, h2, hk, List.map_cons, List.mem_cons]
      constructor
      · rintro (h | h)
        · exact .inl h
        · exact .inr (.inr h)
      · rintro (h | h | h)
        · exact .inl h
        · exact .inl (h ▸ c)
        · exact .inr h
    · have hk := kput_out p.2 c
      obtain ⟨h1, h2⟩ := kmerge_keys ps (kput acc p.1 p.2) (by
        rw [hk, List.nodup_append]
        exact ⟨nd, by simp, by rintro x hx y hy rfl; rw [List.mem_singleton.mp hy] at hx; exact c hx⟩)
      refine ⟨h1, fun k => ?_⟩
      rw [List.foldl_cons, h2, hk, List.map_cons, List.mem_cons, List.mem_append, List.mem_singleton]
      constructor
      · rintro ((h | h) | h)
        · exact .inl h
        · exact .inr (.inl h)
        · exact .inr (.inr h)
      · rintro (h | h | h)
        · exact .inl (.inl h)
        · exact .inl (.inr h)
        · exact .inr h
theorem labs_many : (kmerge ((labs F N).map fun i : Nat => ((.inl (i : Int) : Key), PyData.int 1))).length = cn F N := by
  obtain ⟨h1, h2⟩ := kmerge_keys ((labs F N).map fun i : Nat => ((.inl (i : Int) : Key), PyData.int 1)) [] (by simp)
  have e : (kmerge ((labs F N).map fun i : Nat => ((.inl (i : Int) : Key), PyData.int 1))).length = ((kmerge ((labs F N).map fun i : Nat => ((.inl (i : Int) : Key), PyData.int 1))).map (·.1)).length := by simp
  have g : ∀ l : List Nat, (l.map fun i : Nat => (.inl (i : Int) : Key)).length = l.length := fun l => by simp
  rw [e]
  unfold cn
  rw [List.countP_eq_length_filter, ← g]
  have inj : ∀ i j : Nat, (Sum.inl (i : Int) : Key) = Sum.inl (j : Int) → i = j := fun i j q => by injection q with q; omega
  have nd2 : (((List.range N).filter (lowB F)).map fun i : Nat => (.inl (i : Int) : Key)).Nodup := by
    have h0 : ((List.range N).filter (lowB F)).Nodup := List.nodup_range.filter _
    exact List.Pairwise.map _ (fun a b hab q => hab (inj a b q)) h0
  have mem : ∀ k : Key, k ∈ (kmerge ((labs F N).map fun i : Nat => ((.inl (i : Int) : Key), PyData.int 1))).map (·.1) ↔ k ∈ ((List.range N).filter (lowB F)).map fun i : Nat => (.inl (i : Int) : Key) := by
    intro k
    unfold kmerge
    rw [h2]
    simp only [List.map_nil, List.not_mem_nil, false_or, List.map_map, List.mem_map, Function.comp_apply, List.mem_filter, List.mem_range, lowB_iff, labs]
    constructor
    · rintro ⟨x, hx, rfl⟩
      obtain ⟨a1, a2, a3⟩ := mi_ok (F := F) hx
      exact ⟨_, ⟨a1, a3⟩, rfl⟩
    · rintro ⟨x, ⟨hx, hl⟩, rfl⟩
      exact ⟨x, hx, by rw [(mi_low hx).mpr hl]⟩
  exact Nat.le_antisymm (nodup_le _ _ h1 fun k hk => (mem k).mp hk) (nodup_le _ _ nd2 fun k hk => (mem k).mpr hk)
/-! ### all sets of roads -/
def allL : Nat → List (List Nat)
  | 0 => [[]]
  | k + 1 => allL k ++ (allL k).map (· ++ [k])
theorem allL_len : ∀ k, (allL k).length = 2 ^ k
  | 0 => rfl
  | k + 1 => by simp [allL, allL_len k, Nat.pow_succ]; omega
theorem allL_ok : ∀ k, ∀ L ∈ allL k, L.Pairwise (· < ·) ∧ ∀ a ∈ L, a < k
  | 0, L, h => by
    have : L = [] := by simpa [allL] using h
    subst this
    exact ⟨.nil, by simp⟩
  | k + 1, L, h => by
    rcases List.mem_append.mp h with h | h
    · obtain ⟨h1, h2⟩ := allL_ok k L h
      exact ⟨h1, fun a ha => Nat.lt_succ_of_lt (h2 a ha)⟩
    · obtain ⟨M, hM, rfl⟩ := List.mem_map.mp h
      obtain ⟨h1, h2⟩ := allL_ok k M hM
      refine ⟨List.pairwise_append.mpr ⟨h1, by simp, fun a ha b hb => ?_⟩, fun a ha => ?_⟩
      · rw [List.mem_singleton.mp hb]; exact h2 a ha
      · rcases List.mem_append.mp ha with q | q
        · exact Nat.lt_succ_of_lt (h2 a q)
        · rw [List.mem_singleton.mp q]; exact Nat.lt_succ_self _
/-- between the must and the tree -/
def PT (T : List Nat) (l : Nat → Bool) (R : Nat) (F : List Nat) : Bool := (List.range R).all fun k => (!decide (k ∈ F) || decide (k ∈ T)) && (!(decide (k ∈ T) && !l k) || decide (k ∈ F))
theorem PT_iff {l : Nat → Bool} {F : List Nat} : PT T l R F = true ↔ ∀ k, k < R → (k ∈ F → k ∈ T) ∧ (k ∈ T → l k = false → k ∈ F) := by
  unfold PT
  rw [List.all_eq_true]
  constructor
  · intro h k hk
    have := h k (List.mem_range.mpr hk)
    simp only [Bool.and_eq_true, Bool.or_eq_true, Bool.not_eq_true', decide_eq_true_eq, decide_eq_false_iff_not, Bool.and_eq_false_iff, Bool.not_eq_false'] at this
    refine ⟨fun q => this.1.resolve_left fun z => z q, fun q1 q2 => ?_⟩
    rcases this.2 with (z | z) | z
    · exact absurd q1 z
    · rw [q2] at z; cases z
    · exact z
  · intro h k hk
    obtain ⟨h1, h2⟩ := h k (List.mem_range.mp hk)
    simp only [Bool.and_eq_true, Bool.or_eq_true, Bool.not_eq_true', decide_eq_true_eq, decide_eq_false_iff_not, Bool.and_eq_false_iff, Bool.not_eq_false']
    refine ⟨?_, ?_⟩
    · by_cases q : k ∈ F
      · exact .inr (h1 q)
      · exact .inl q
    · by_cases q : k ∈ T
      · cases q2 : l k with
        | true => exact .inl (.inr rfl)
        | false => exact .inr (h2 q q2)
      · exact .inl (.inl q)
theorem PT_count (T : List Nat) (l : Nat → Bool) : ∀ R, (allL R).countP (PT T l R) = 2 ^ ((List.range R).countP fun k => decide (k ∈ T) && l k)
  | 0 => by simp [allL, PT]
  | R + 1 => by
    have ih := PT_count T l R
    have hF : ∀ F ∈ allL R, R ∉ F := fun F hF z => Nat.lt_irrefl _ ((allL_ok R F hF).2 R z)
    have c1 : (allL R).countP (PT T l (R + 1)) = if (R ∈ T ∧ l R = false) then 0 else (allL R).countP (PT T l R) := by
      split
      · rename_i h
        refine List.countP_eq_zero.mpr fun F hf z => hF F hf ((PT_iff.mp z R (Nat.lt_succ_self _)).2 h.1 h.2)
      · rename_i h
        refine List.countP_congr fun F hf => ?_
        rw [PT_iff, PT_iff]
        constructor
        · exact fun z k hk => z k (Nat.lt_succ_of_lt hk)
        · intro z k hk
          by_cases e : k = R
          · subst e
            exact ⟨fun q => absurd q (hF F hf), fun q1 q2 => absurd ⟨q1, q2⟩ h⟩
          · exact z k (by omega)
    have c2 : ((allL R).map (· ++ [R])).countP (PT T l (R + 1)) = if R ∈ T then (allL R).countP (PT T l R) else 0 := by
      rw [List.countP_map]
      split
      · rename_i h
        refine List.countP_congr fun F hf => ?_
        show PT T l (R + 1) (F ++ [R]) = true ↔ _
        rw [PT_iff, PT_iff]
        constructor
        · intro z k hk
          have := z k (Nat.lt_succ_of_lt hk)
          refine ⟨fun q => this.1 (List.mem_append_left _ q), fun q1 q2 => ?_⟩
          rcases List.mem_append.mp (this.2 q1 q2) with r | r
          · exact r
          · have := List.mem_singleton.mp r; omega
        · intro z k hk
          by_cases e : k = R
          · subst e
            exact ⟨fun _ => h, fun _ _ => by simp⟩
          · have := z k (by omega)
            refine ⟨fun q => ?_, fun q1 q2 => List.mem_append_left _ (this.2 q1 q2)⟩
            rcases List.mem_append.mp q with r | r
            · exact this.1 r
            · exact absurd (List.mem_singleton.mp r) e
      · rename_i h
        refine List.countP_eq_zero.mpr fun F hf z => h ?_
        exact (PT_iff.mp z R (Nat.lt_succ_self _)).1 (by simp)
    show (allL R ++ (allL R).map (· ++ [R])).countP _ = _
    rw [List.countP_append, c1, c2, List.range_succ, List.countP_append, ih]
    by_cases h : R ∈ T
    · cases q : l R with
      | true => simp [h, q, Nat.pow_succ]; omega
      | false => simp [h, q]
    · simp [h]
/-! ### in all -/
def lastB (E : List (Nat × Nat)) (T : List Nat) (c : Nat → List Nat) (k : Nat) : Bool := (c k).all fun j => decide (j ≤ k)
theorem lastB_iff : lastB E T (cutR E T) k = true ↔ Lst E T k := by
  unfold lastB Lst
  rw [List.all_eq_true]
  simp
theorem asc_ord : ∀ {R : Nat} {T : List Nat}, T.Pairwise (· < ·) → (∀ k ∈ T, k < R) → ordT R T = T := fun {R T} h1 h2 => by
  have np : (ordT R T).Perm T := nodup_perm ordT_nd (h1.imp fun h => Nat.ne_of_lt h) fun k => by
    rw [ordT_mem]
    exact ⟨fun h => h.2, fun h => ⟨h2 k h, h⟩⟩
  exact np.eq_of_pairwise (fun a b _ _ h k => by omega) asc_filter h1
theorem tov_iff (hE : EOk E N) (t : TreeR E N T) (asc : T.Pairwise (· < ·)) (hF : K ∈ allL E.length) : (Ac E N K ∧ tov E K = T) ↔ PT T (lastB E T (cutR E T)) E.length K = true := by
  obtain ⟨f1, f2⟩ := allL_ok _ K hF
  have nd : K.Nodup := f1.imp fun h => Nat.ne_of_lt h
  rw [PT_iff]
  constructor
  · rintro ⟨ac, e⟩ k hk
    have G := grd_ok hE ac nd f2 E.length (Nat.le_refl _)
    refine ⟨fun q => ?_, fun q1 q2 => ?_⟩
    · rw [← e, tov_mem G]; exact G.ge k q
    · by_cases c : k ∈ K
      · exact c
      · have := tov_last hE ac nd f2 (by rw [e]; exact q1) c
        rw [e] at this
        rw [lastB_iff.mpr this] at q2
        cases q2
  · intro h
    have hs : ∀ k ∈ K, k ∈ T := fun k hk => (h k (f2 k hk)).1 hk
    refine ⟨t.ac.sub hE t.lt nd hs, ?_⟩
    have key := tov_tree hE t nd hs (fun k h1 h2 => lastB_iff.mp (by
      cases q : lastB E T (cutR E T) k with
      | true => rfl
      | false => exact absurd ((h k (t.lt k h1)).2 h1 q) h2)) E.length (Nat.le_refl _)
    rw [← asc_ord asc t.lt]
    unfold tov ordT
    refine List.filter_congr fun k hk => ?_
    have hk' := List.mem_range.mp hk
    have : k ∈ grd E K E.length ↔ k ∈ T := by
      rw [key k]
      exact ⟨fun z => z.elim (hs k) (·.1), fun z => .inr ⟨z, by omega⟩⟩
    simp [this]
theorem tov_count (hE : EOk E N) (t : TreeR E N T) (asc : T.Pairwise (· < ·)) (fr : List Nat → Bool) (hfr : ∀ F ∈ allL E.length, fr F = true ↔ Ac E N F) :
    ((allL E.length).filter fr).countP (fun F => decide (tov E F = T)) = 2 ^ (T.filter (lastB E T (cutR E T))).length := by
  rw [List.countP_filter]
  have h1 : (allL E.length).countP (fun F => decide (tov E F = T) && fr F) = (allL E.length).countP (PT T (lastB E T (cutR E T)) E.length) := List.countP_congr fun F hF => by
    rw [Bool.and_eq_true, decide_eq_true_eq, hfr F hF, and_comm, tov_iff hE t asc hF]
  rw [h1, PT_count]
  congr 1
  rw [← List.countP_eq_length_filter]
  have key : ∀ q : Nat → Bool, T.countP q = (List.range E.length).countP fun k => decide (k ∈ T) && q k := fun q => by
    conv => lhs; rw [← asc_ord asc t.lt]
    unfold ordT
    rw [List.countP_filter]
    exact List.countP_congr fun k _ => by simp [and_comm]
  rw [key]
/-- a tree: as many as it has to be, all joined -/
theorem tree_of (hN : 1 ≤ N) (hT : T.length + 1 = N) (asc : T.Pairwise (· < ·)) (lt : Lt E T) (h : ∀ x, x < N → mi (Fk E T) N x = 0) : TreeR E N T := by
  have con : ∀ x y, x < N → y < N → Con (Fk E T) x y := fun x y hx hy => (mi_eq hx hy).mp ((h x hx).trans (h y hy).symm)
  refine ⟨?_, asc.imp fun h => Nat.ne_of_lt h, lt, con⟩
  unfold Ac
  have : cn (Fk E T) N = 1 := by
    unfold cn
    rw [List.countP_eq_length_filter]
    have : ((List.range N).filter (lowB (Fk E T))).Perm [0] := nodup_perm (List.nodup_range.filter _) (by simp) fun k => by
      rw [List.mem_filter, List.mem_range, lowB_iff, List.mem_singleton]
      constructor
      · rintro ⟨h1, h2⟩
        by_cases c : k = 0
        · exact c
        · exact absurd (con 0 k (by omega) h1) (h2 0 (by omega))
      · rintro rfl
        exact ⟨by omega, fun y hy => by omega⟩
    exact this.length_eq
  omega
/-- the cut as the program sees it -/
noncomputable def cutP (E : List (Nat × Nat)) (T : List Nat) (k : Nat) : List Nat := (List.range E.length).filter fun j => conB (Fk E (wo T k)) (e1 E k) (e1 E j) != conB (Fk E (wo T k)) (e1 E k) (e2 E j)
theorem cutP_eq (hE : EOk E N) (t : TreeR E N T) (hk : k ∈ T) : cutP E T k = cutR E T k := by
  unfold cutP cutR
  refine List.filter_congr fun j hj => ?_
  have hj := List.mem_range.mp hj
  have hkE := t.lt k hk
  have p : T.Perm (wo T k ++ [k]) := by
    have h1 := List.perm_cons_erase hk
    rw [t.nd.erase_eq_filter] at h1
    have h2 : (T.filter fun x => x != k) = wo T k := List.filter_congr fun x _ => by
      by_cases e : x = k <;> simp [e]
    rw [h2] at h1
    exact h1.trans (List.perm_append_comm (l₁ := [k]) (l₂ := wo T k))
  have two : ∀ x, x < N → Con (Fk E (wo T k)) (e1 E k) x ∨ Con (Fk E (wo T k)) (e2 E k) x := fun x hx => by
    have := con_sub (E := E) (T := wo T k ++ [k]) (fun i hi => p.mem_iff.mp hi) (t.con (e1 E k) x (hE k hkE).1 hx)
    rw [Fk_snoc] at this
    rcases con_snoc.mp this with q | ⟨_, q⟩ | ⟨_, q⟩
    · exact .inl q
    · exact .inr q
    · exact .inl q
  have br := t.ac.bridge hE t.lt t.nd hk
  obtain ⟨j1, j2⟩ := hE j hj
  have : (conB (Fk E (wo T k)) (e1 E k) (e1 E j) != conB (Fk E (wo T k)) (e1 E k) (e2 E j)) = true ↔ (!conB (Fk E (wo T k)) (e1 E j) (e2 E j)) = true := by
    rw [Bool.not_eq_true', conB_false]
    cases q1 : conB (Fk E (wo T k)) (e1 E k) (e1 E j) with
    | true =>
      have c1 := conB_iff.mp q1
      cases q2 : conB (Fk E (wo T k)) (e1 E k) (e2 E j) with
      | true => exact ⟨fun h => by simp at h, fun h => absurd (c1.symm.trans (conB_iff.mp q2)) h⟩
      | false => exact ⟨fun _ z => conB_false.mp q2 (c1.trans z), fun _ => by simp⟩
    | false =>
      have c1 := conB_false.mp q1
      have d1 := (two _ j1).resolve_left c1
      cases q2 : conB (Fk E (wo T k)) (e1 E k) (e2 E j) with
      | true => exact ⟨fun _ z => c1 ((conB_iff.mp q2).trans z.symm), fun _ => by simp⟩
      | false =>
        have d2 := (two _ j2).resolve_left (conB_false.mp q2)
        exact ⟨fun h => by simp at h, fun h => absurd (d1.symm.trans d2) h⟩
  cases h1 : (conB (Fk E (wo T k)) (e1 E k) (e1 E j) != conB (Fk E (wo T k)) (e1 E k) (e2 E j)) with
  | true => exact (this.mp h1).symm
  | false =>
    cases h2 : (!conB (Fk E (wo T k)) (e1 E j) (e2 E j)) with
    | true => rw [this.mpr h2] at h1; cases h1
    | false => rfl
end
end Z
set_option maxRecDepth 100000
set_option maxHeartbeats 4000000
/-! the law's labels, its lots -/
namespace Z
open PySem PySem.Spec PyProof.Rows L2
noncomputable def G_labs : GFn := runF n__law_labels f__law_labels
noncomputable def G_chos : GFn := runF n__law_chosen f__law_chosen
noncomputable def G_lnam : GFn := runF n__law_named f__law_named
noncomputable def G_two : GFn := runF n__law_two_to f__law_two_to
section
variable {S : Store} {n p N : Nat} {vs : List Str} {rs : List (Str × Str × Str)} {E F : List (Nat × Nat)} {K T L : List Nat}
theorem idx_nat (v : Nat) : ∀ (vs : List Nat) (j : Nat), v ∈ vs → idxOf (.int (v : Int)) (NI vs) j = some (j + vs.idxOf v)
  | x :: r, j, h => by
    show (if PyData.eqv (.int (x : Int)) (.int (v : Int)) = true then some j else idxOf (.int (v : Int)) (NI r) (j + 1)) = _
    have e : PyData.eqv (.int (x : Int)) (.int (v : Int)) = decide (x = v) := eqi_nat x v
    rw [e, List.idxOf_cons]
    by_cases q : x = v
    · subst q; simp
    · have hv : v ∈ r := by
        rcases List.mem_cons.mp h with z | z
        · exact absurd z.symm q
        · exact z
      rw [if_neg (by simpa using q), idx_nat v r (j + 1) hv]
      have q2 : (x == v) = false := by simp [q]
      rw [q2]
      simp
      omega
theorem idxL_NI {v : Nat} {vs : List Nat} (h : v ∈ vs) (S : Store) : gIdxL (.d (.list (NI vs))) [.d (.int (v : Int))] S = .ok (.d (.int (vs.idxOf v : Nat))) S := by
  have e := idx_nat v vs 0 h
  rw [Nat.zero_add] at e
  simp [gIdxL, shaped_NI, (dpt_int (k := 0) (v : Int)).shaped, e]
@[simp] theorem kind_list {ds : List PyData} : isKind "list" (.d (.list ds)) S = true := by simp [isKind]
theorem lab_step {F : List (Nat × Nat)} {q : Nat} {e : Nat × Nat} (h : F[q]? = some e) : labF (F.take (q + 1)) = labS (labF (F.take q)) e := by
  rw [List.take_add_one, h]
  exact labF_snoc
theorem labels_run (hF : ∀ e ∈ F, e.1 < N ∧ e.2 < N) (hN : N ≤ 1000) (S : Store) : G_labs [.d (.int (N : Int)), .d (.list (F.map ED))] S = .ok (.d (.list (NI (labs F N)))) S := by
  refine Wp.eq ?_
  have hil : (intL 0 N).length = N := by simp [intL]
  have hin : intL 0 N = NI ((List.range N).map (labF [])) := by simp [intL, labF, NI]
  have sl : N ≤ sizeLine := small (by omega)
  have hri : (N : Int) ≤ 16000000 := by omega
  simp [-e_seq, G_labs, f__law_labels, startR, hri, hil, sl]
  refine wps_forD (fun q ρ S' => S' = S ∧ ∃ o3 o4 o5 o6, ρ = [some (.d (.int (N : Int))), some (.d (.list (F.map ED))), some (.d (.list (NI ((List.range N).map (labF (F.take q)))))), o3, o4, o5, o6, none]) ⟨rfl, none, none, none, none, by rw [hin]; rfl⟩ ?_ ?_
  · rintro q d hd ρ S' ⟨rfl, o3, o4, o5, o6, rfl⟩
    rw [List.getElem?_map] at hd
    cases hq : F[q]? with
    | none => rw [hq] at hd; cases hd
    | some e =>
      rw [hq] at hd
      cases hd
      have he := hF e (List.mem_of_getElem? hq)
      have hl : ∀ x, x < N → atI (NI ((List.range N).map (labF (F.take q)))) (x : Int) = some (.int (labF (F.take q) x : Nat)) := fun x hx => by rw [NI_at (by simpa using hx)]; simp
      obtain ⟨ρ1, hρ⟩ : ∃ ρ1, tupG 2 (consG (nameG 3) (consG (nameG 4) nilG)) (.one (.d (ED e))) [some (.d (.int (N : Int))), some (.d (.list (F.map ED))), some (.d (.list (NI ((List.range N).map (labF (F.take q)))))), o3, o4, o5, o6, none] = some ρ1 := ⟨_, rfl⟩
      refine ⟨ρ1, hρ, ?_⟩
      simp [ED] at hρ
      subst hρ
      simp [-e_seq, hl _ he.1, hl _ he.2]
      refine wp_lcM (cs := (List.range N).map (labF (F.take q))) (fun k : Nat => itI (k : Int)) (fun k => .int (if k = labF (F.take q) e.2 then labF (F.take q) e.1 else k : Nat)) (one_NI _) (fun k hk => ⟨_, rfl, ?_⟩) ?_
      · simp [itI]
        by_cases c : k = labF (F.take q) e.2
        · simp [c]
        · have : ¬ (k : Int) = (labF (F.take q) e.2 : Nat) := by omega
          simp [c, this]
      · have ey : ((List.range N).map (labF (F.take q))).map (fun k => PyData.int (if k = labF (F.take q) e.2 then labF (F.take q) e.1 else k : Nat)) = NI ((List.range N).map (labF (F.take (q + 1)))) := by
          rw [lab_step hq]
          simp [NI, labS]
        rw [ey]
        simp [-e_seq, sl]
  · rintro ρ S' ⟨rfl, o3, o4, o5, o6, rfl⟩
    rw [List.length_map, List.take_length]
    simp [-e_seq]
    refine wp_lcM (cs := (List.range N).map (labF F)) (fun k : Nat => itI (k : Int)) (fun k => .int (((List.range N).map (labF F)).idxOf k : Nat)) (one_NI _) (fun k hk => ⟨_, rfl, ?_⟩) ?_
    · simp [itI, idxL_NI hk]
    · have ey : ((List.range N).map (labF F)).map (fun k => PyData.int (((List.range N).map (labF F)).idxOf k : Nat)) = NI (labs F N) := by
        simp [NI, labs, mi]
      rw [ey]
      simp [labs, sl]
abbrev LL (L : List Nat) : PyData := .list (NI L)
abbrev RWS (Ls : List (List Nat)) : PyData := .list (Ls.map LL)
def chosS (M : Nat) (rows : List (List Nat)) (t : Nat) : List (List Nat) := rows ++ (rows.filter fun L => decide (L.length < M)).map (· ++ [t])
def chos (M R : Nat) : List (List Nat) := ((List.range R).foldl (chosS M) [[]]).filter fun L => decide (L.length = M)
theorem chosS_ok (M : Nat) : ∀ R, ((List.range R).foldl (chosS M) [[]]).length ≤ 2 ^ R ∧ ∀ L ∈ (List.range R).foldl (chosS M) [[]], L.Pairwise (· < ·) ∧ (∀ a ∈ L, a < R) ∧ L.length ≤ R
  | 0 => by simp
  | R + 1 => by
    obtain ⟨h1, h2⟩ := chosS_ok M R
    rw [List.range_succ, List.foldl_append]
    simp only [List.foldl_cons, List.foldl_nil]
    unfold chosS
    refine ⟨?_, fun L hL => ?_⟩
    · rw [List.length_append, List.length_map]
      have := List.length_filter_le (fun L : List Nat => decide (L.length < M)) ((List.range R).foldl (chosS M) [[]])
      unfold chosS at this h1
      rw [Nat.pow_succ]
      omega
    · rcases List.mem_append.mp hL with h | h
      · obtain ⟨a1, a2, a3⟩ := h2 L h
        exact ⟨a1, fun a ha => Nat.lt_succ_of_lt (a2 a ha), by omega⟩
      · obtain ⟨L', hL', rfl⟩ := List.mem_map.mp h
        obtain ⟨a1, a2, a3⟩ := h2 L' (List.mem_filter.mp hL').1
        refine ⟨List.pairwise_append.mpr ⟨a1, by simp, fun a ha b hb => ?_⟩, fun a ha => ?_, by simp; omega⟩
        · rw [List.mem_singleton.mp hb]; exact a2 a ha
        · rcases List.mem_append.mp ha with q | q
          · exact Nat.lt_succ_of_lt (a2 a q)
          · rw [List.mem_singleton.mp q]; exact Nat.lt_succ_self _
theorem chos_run {M R : Nat} (hR : R ≤ 10) (S : Store) : G_chos [.d (.list (NI (List.range R))), .d (.int (M : Int))] S = .ok (.d (RWS (chos M R))) S := by
  refine Wp.eq ?_
  have p10 : ∀ k, k ≤ 10 → 2 ^ k ≤ 1024 := fun k hk => by have := Nat.pow_le_pow_right (show 0 < 2 by omega) hk; omega
  have s1 : 1 ≤ sizeLine := small (by omega)
  simp [-e_seq, G_chos, f__law_chosen, startR]
  refine wps_forD (fun q ρ S' => S' = S ∧ ∃ o3, ρ = [some (.d (.list (NI (List.range R)))), some (.d (.int (M : Int))), some (.d (RWS ((List.range q).foldl (chosS M) [[]]))), o3, none]) ⟨rfl, none, rfl⟩ ?_ ?_
  · rintro q d hd ρ S' ⟨rfl, o3, rfl⟩
    rw [NI_get] at hd
    have hq : q < R := by
      by_cases c : q < R
      · exact c
      · rw [List.getElem?_eq_none (by simpa using c)] at hd; cases hd
    simp [hq] at hd
    subst hd
    obtain ⟨rows, hrows⟩ : ∃ rows, rows = (List.range q).foldl (chosS M) [[]] := ⟨_, rfl⟩
    have hok := chosS_ok M q
    rw [← hrows] at hok ⊢
    have e1 : (List.range (q + 1)).foldl (chosS M) [[]] = chosS M rows q := by rw [List.range_succ, List.foldl_append, hrows]; rfl
    have hf := List.length_filter_le (fun L : List Nat => decide (L.length < M)) rows
    have hp := p10 q (by omega)
    refine ⟨_, rfl, ?_⟩
    simp [-e_seq]
    refine wp_lcF (cs := rows) (fun L => itD (LL L)) (fun L => decide (L.length < M)) (fun L => LL (L ++ [q])) (one_map _ _) (fun L hL => ⟨_, rfl, ?_⟩) ?_
    · have hl := (hok.2 L hL).2.2
      have z1 : L.length + 1 ≤ sizeLine := small (by omega)
      simp [itD, z1, NI]
    · have z1 : (rows.filter fun L => decide (L.length < M)).length ≤ sizeLine := small (by omega)
      have z2 : rows.length + (rows.filter fun L => decide (L.length < M)).length ≤ sizeLine := small (by omega)
      simp [-e_seq, z1, z2]
      rw [e1]
      simp [chosS]
  · rintro ρ S' ⟨rfl, o3, rfl⟩
    simp [-e_seq]
    obtain ⟨rows, hrows⟩ : ∃ rows, rows = (List.range R).foldl (chosS M) [[]] := ⟨_, rfl⟩
    have hok := chosS_ok M R
    have ec : chos M R = rows.filter fun L => decide (L.length = M) := by rw [hrows]; rfl
    rw [← hrows] at hok ⊢
    have hf := List.length_filter_le (fun L : List Nat => decide (L.length = M)) rows
    have hp := p10 R (by omega)
    refine wp_lcF (cs := rows) (fun L => itD (LL L)) (fun L => decide (L.length = M)) (fun L => LL L) (one_map _ _) (fun L hL => ⟨_, rfl, ?_⟩) ?_
    · have : ((L.length : Int) == (M : Int)) = decide (L.length = M) := by
        by_cases c : L.length = M
        · simp [c]
        · have : ¬ (L.length : Int) = (M : Int) := by omega
          simp [c, this]
      simp [itD, this]
    · have z1 : (rows.filter fun L => decide (L.length = M)).length ≤ sizeLine := small (by omega)
      rw [ec]
      simp [-e_seq, z1]
def rnm (rs : List (Str × Str × Str)) (k : Nat) : Str := (rs.getD k (Str.empty, Str.empty, Str.empty)).1
def RN (rs : List (Str × Str × Str)) (L : List Nat) : PyData := .tuple (L.map fun k => .str (rnm rs k))
theorem named_run (hL : ∀ k ∈ L, k < rs.length) (hl : L.length ≤ 10000) (S : Store) : G_lnam [.d (LD vs rs), .d (LL L)] S = .ok (.d (RN rs L)) S := by
  refine Wp.eq ?_
  simp [-e_seq, G_lnam, f__law_named, startR]
  refine wp_lcM (cs := L) (fun k : Nat => itI (k : Int)) (fun k => .str (rnm rs k)) (one_NI _) (fun k hk => ⟨_, rfl, ?_⟩) ?_
  · have hk := hL k hk
    have : rnm rs k = rs[k].1 := by simp [rnm, hk]
    simp [itI, rs_at hk, RD, rd0 (i := 0), this]
  · simp [small hl, RN]
theorem two_run {m : Nat} (hm : m ≤ 60) (S : Store) : G_two [.d (.int (m : Int))] S = .ok (.d (.int ((2 ^ m : Nat) : Int))) S := by
  refine Wp.eq ?_
  have w1 : inW (m : Int) = true := inW_nat (by omega)
  simp [-e_seq, G_two, f__law_two_to, startR, w1]
  refine wps_forR (fun q ρ S' => S' = S ∧ ∃ o, ρ = [some (.d (.int (m : Int))), some (.d (.int ((2 ^ q : Nat) : Int))), o]) ⟨rfl, none, rfl⟩ ?_ ?_
  · rintro q hq ρ S' ⟨rfl, o, rfl⟩
    refine ⟨_, rfl, ?_⟩
    have hm2 : ∀ i : Int, CMul 2 i := fun i => Or.inl (by decide)
    have : (2 : Int) * ((2 ^ q : Nat) : Int) = ((2 ^ (q + 1) : Nat) : Int) := by rw [Nat.pow_succ, Int.natCast_mul]; omega
    simp [-e_seq, -Int.natCast_pow, hm2, this]
  · rintro ρ S' ⟨rfl, o, rfl⟩
    simp
end
end Z
set_option maxRecDepth 100000
set_option maxHeartbeats 4000000
/-! the law's trees, sets without a round, the tree over a set -/
namespace Z
open PySem PySem.Spec PyProof.Rows L2
noncomputable def G_trees : GFn := runF n__law_all_trees (f__law_all_trees G_chos G_ends G_labs)
noncomputable def G_free : GFn := runF n__law_free_sets (f__law_free_sets G_ends G_labs)
noncomputable def G_ltov : GFn := runF n__law_tree_over (f__law_tree_over G_ends G_labs)
section
variable {S : Store} {n p N : Nat} {vs : List Str} {rs : List (Str × Str × Str)} {E F : List (Nat × Nat)} {K T L : List Nat}
theorem ends_len : (endsOf vs rs).length = rs.length := by simp [endsOf]
theorem land_EOk (L : LandOk vs rs) : EOk (endsOf vs rs) vs.length := fun k hk => by
  have := ends_lt L _ (List.getElem_mem hk)
  unfold e1 e2
  rw [getD_at hk]
  exact this
theorem Fk_ED : L.map (fun k => ED (E.getD k (0, 0))) = (Fk E L).map ED := by simp [Fk]
theorem EG_at {k : Nat} (hk : k < E.length) : atI (E.map ED) (k : Int) = some (ED (E.getD k (0, 0))) := by rw [E_at hk, getD_at hk]
theorem NI_II (xs : List Nat) : NI xs = II (xs.map fun k : Nat => (k : Int)) := by simp [NI]
theorem maxN_run {xs : List Nat} (h : 0 < xs.length) (S : Store) : gMM maxI [.d (.list (NI xs))] S = .ok (.d (.int (maxI (xs.map fun k : Nat => (k : Int))))) S := by
  rw [NI_II]
  exact mm_list (by simpa using h)
theorem labs_len : (labs F N).length = N := by simp [labs]
theorem labs_at {x : Nat} (hx : x < N) : atI (NI (labs F N)) (x : Int) = some (.int (mi F N x : Nat)) := by
  rw [NI_at (by rw [labs_len]; exact hx)]
  simp [labs]
theorem ll_snoc {A : List (List Nat)} : evs (A.map LL) ++ [.d (LL L)] = evs ((A ++ [L]).map LL) := by simp [evs]
def trB (E : List (Nat × Nat)) (N : Nat) (L : List Nat) : Bool := decide (maxI ((labs (Fk E L) N).map fun k : Nat => (k : Int)) = 0)
theorem trees_run (L : LandOk vs rs) (hR : rs.length ≤ 10) (hv : vs.length ≤ 10) (S : Store) :
    G_trees [.d (LD vs rs)] S = .ok (.d (RWS ((chos (vs.length - 1) rs.length).filter (trB (endsOf vs rs) vs.length)))) (S ++ [.gone]) := by
  have hp := L.pos
  have eE := ends_len (vs := vs) (rs := rs)
  have hEk := land_EOk L
  have hil : (intL 0 rs.length).length = rs.length := by simp [intL]
  have hin : intL 0 rs.length = NI (List.range rs.length) := by simp [intL, NI]
  have sl : rs.length ≤ sizeLine := small (by omega)
  have hri : (rs.length : Int) ≤ 16000000 := by omega
  have eM : (vs.length : Int) - 1 = ((vs.length - 1 : Nat) : Int) := by omega
  have hch := chosS_ok (vs.length - 1) rs.length
  have hcl : (chos (vs.length - 1) rs.length).length ≤ 1024 := by
    have := List.length_filter_le (fun L : List Nat => decide (L.length = vs.length - 1)) ((List.range rs.length).foldl (chosS (vs.length - 1)) [[]])
    have p2 := Nat.pow_le_pow_right (show 0 < 2 by omega) hR
    have h1 := hch.1
    show (((List.range rs.length).foldl (chosS (vs.length - 1)) [[]]).filter fun L => decide (L.length = vs.length - 1)).length ≤ 1024
    omega
  have hmem : ∀ A ∈ chos (vs.length - 1) rs.length, (∀ a ∈ A, a < rs.length) ∧ A.length ≤ rs.length := fun A hA => by
    have := hch.2 A (List.mem_filter.mp hA).1
    exact this.2
  have key : Wp (G_trees [.d (LD vs rs)] S) (fun v S' => v = .d (RWS ((chos (vs.length - 1) rs.length).filter (trB (endsOf vs rs) vs.length))) ∧ S' = S ++ [.gone]) nox := by
    simp [-e_seq, G_trees, f__law_all_trees, startR, ends_run L, eE, hri, hil, sl]
    rw [hin, eM, chos_run hR]
    simp [-e_seq]
    refine wps_forD (fun q ρ S' => ∃ o4 o5, S' = S ++ [.lst (evs ((((chos (vs.length - 1) rs.length).take q).filter (trB (endsOf vs rs) vs.length)).map LL))] ∧ ρ = [some (.d (LD vs rs)), some (.d (.list ((endsOf vs rs).map ED))), some (.d (.int (vs.length : Int))), some (.own S.length), o4, o5]) ⟨none, none, by simp, rfl⟩ ?_ ?_
    · rintro q d hd ρ S' ⟨o4, o5, rfl, rfl⟩
      rw [List.getElem?_map] at hd
      cases hq : (chos (vs.length - 1) rs.length)[q]? with
      | none => rw [hq] at hd; cases hd
      | some A =>
        rw [hq] at hd
        cases hd
        have hA := hmem A (List.mem_of_getElem? hq)
        have htk : (chos (vs.length - 1) rs.length).take (q + 1) = (chos (vs.length - 1) rs.length).take q ++ [A] := by rw [List.take_add_one, hq]; rfl
        refine ⟨_, rfl, ?_⟩
        simp [-e_seq]
        refine wp_lcM (cs := A) (fun k : Nat => itI (k : Int)) (fun k => ED ((endsOf vs rs).getD k (0, 0))) (one_NI _) (fun k hk => ⟨_, rfl, ?_⟩) ?_
        · have := EG_at (E := endsOf vs rs) (k := k) (by rw [eE]; exact hA.1 k hk)
          simp [-List.getD_eq_getElem?_getD, itI, this]
        · rw [Fk_ED]
          have z1 : ((Fk (endsOf vs rs) A).map ED).length ≤ sizeLine := by rw [List.length_map, Fk_len]; exact small (by omega)
          have hlab := labels_run (F := Fk (endsOf vs rs) A) (N := vs.length) (Fk_lt hEk fun k hk => by rw [eE]; exact hA.1 k hk) (by omega)
          have hmx := maxN_run (xs := labs (Fk (endsOf vs rs) A) vs.length) (by rw [labs_len]; omega)
          have q1 : (S ++ [SO.lst (evs ((((chos (vs.length - 1) rs.length).take q).filter (trB (endsOf vs rs) vs.length)).map LL))])[S.length]? = some (.lst (evs ((((chos (vs.length - 1) rs.length).take q).filter (trB (endsOf vs rs) vs.length)).map LL))) := by simp
          have hfl := List.length_filter_le (trB (endsOf vs rs) vs.length) ((chos (vs.length - 1) rs.length).take q)
          have htl := List.length_take_le q (chos (vs.length - 1) rs.length)
          have z2 : (evs ((((chos (vs.length - 1) rs.length).take q).filter (trB (endsOf vs rs) vs.length)).map LL)).length < sizeLine := small' (by rw [evs_len, List.length_map]; have := List.length_take_le' q (chos (vs.length - 1) rs.length); omega)
          rw [List.length_map] at z1
          simp [-e_seq, z1, hlab, hmx]
          by_cases c : maxI ((labs (Fk (endsOf vs rs) A) vs.length).map fun k : Nat => (k : Int)) = 0
          · simp [-e_seq, c, kind_own q1, app_own q1 z2]
            rw [htk, List.filter_append, ll_snoc]
            simp [trB, c]
          · simp [-e_seq, c]
            rw [htk, List.filter_append]
            simp [trB, c]
    · rintro ρ S' ⟨o4, o5, rfl, rfl⟩
      rw [List.length_map, List.take_length]
      have q1 : (S ++ [SO.lst (evs (((chos (vs.length - 1) rs.length).filter (trB (endsOf vs rs) vs.length)).map LL))])[S.length]? = some (.lst (evs (((chos (vs.length - 1) rs.length).filter (trB (endsOf vs rs) vs.length)).map LL))) := by simp
      simp [-e_seq, frz_own q1]
  obtain ⟨v, S', e, rfl, rfl⟩ := key.ex
  exact e
theorem trees_ok (L : LandOk vs rs) (hT : T ∈ (chos (vs.length - 1) rs.length).filter (trB (endsOf vs rs) vs.length)) : TreeR (endsOf vs rs) vs.length T ∧ T.Pairwise (· < ·) ∧ T.length ≤ rs.length := by
  obtain ⟨h1, h2⟩ := List.mem_filter.mp hT
  obtain ⟨h3, h4⟩ := List.mem_filter.mp h1
  obtain ⟨a1, a2, a3⟩ := (chosS_ok (vs.length - 1) rs.length).2 T h3
  have hp := L.pos
  unfold trB at h2
  rw [decide_eq_true_eq] at h2 h4
  refine ⟨tree_of hp (by omega) a1 (fun k hk => by rw [ends_len]; exact a2 k hk) fun x hx => ?_, a1, a3⟩
  have := maxI_le (ns := (labs (Fk (endsOf vs rs) T) vs.length).map fun k : Nat => (k : Int)) (mi (Fk (endsOf vs rs) T) vs.length x : Nat) (List.mem_map.mpr ⟨_, List.mem_map.mpr ⟨x, List.mem_range.mpr hx, rfl⟩, rfl⟩)
  omega
/-! ### sets without a round -/
noncomputable def frB (E : List (Nat × Nat)) (N : Nat) (L : List Nat) : Bool := decide (L.length + cn (Fk E L) N = N)
theorem frB_iff : frB E N L = true ↔ Ac E N L := by unfold frB Ac; rw [decide_eq_true_eq]
theorem allL_lenL : ∀ k, ∀ L ∈ allL k, L.length ≤ k := fun k L hL => by
  obtain ⟨h1, h2⟩ := allL_ok k L hL
  have := nodup_le L (List.range k) (h1.imp fun h => Nat.ne_of_lt h) fun a ha => List.mem_range.mpr (h2 a ha)
  simpa using this
theorem free_run (L : LandOk vs rs) (hR : rs.length ≤ 10) (hv : vs.length ≤ 10) (S : Store) :
    G_free [.d (LD vs rs)] S = .ok (.d (RWS ((allL rs.length).filter (frB (endsOf vs rs) vs.length)))) (S ++ [.gone]) := by
  have hp := L.pos
  have eE := ends_len (vs := vs) (rs := rs)
  have hEk := land_EOk L
  have wm : inW (rs.length : Int) = true := inW_nat (by omega)
  have p10 : ∀ k, k ≤ 10 → 2 ^ k ≤ 1024 := fun k hk => by have := Nat.pow_le_pow_right (show 0 < 2 by omega) hk; omega
  have s1 : 1 ≤ sizeLine := small (by omega)
  have key : Wp (G_free [.d (LD vs rs)] S) (fun v S' => v = .d (RWS ((allL rs.length).filter (frB (endsOf vs rs) vs.length))) ∧ S' = S ++ [.gone]) nox := by
    simp [-e_seq, G_free, f__law_free_sets, startR, ends_run L, eE, wm]
    refine wps_forR (fun q ρ S' => S' = S ∧ ∃ o4, ρ = [some (.d (LD vs rs)), some (.d (.list ((endsOf vs rs).map ED))), some (.d (.int (vs.length : Int))), some (.d (RWS (allL q))), o4, none, none, none, none]) ⟨rfl, none, rfl⟩ ?_ ?_
    · rintro q hq ρ S' ⟨rfl, o4, rfl⟩
      refine ⟨_, rfl, ?_⟩
      have hal := allL_len q
      have hpq := p10 q (by omega)
      have z1 : (allL q).length ≤ sizeLine := small (by omega)
      have z2 : (allL q).length + (allL q).length ≤ sizeLine := small (by omega)
      simp [-e_seq]
      refine wp_lcM (cs := allL q) (fun L => itD (LL L)) (fun L => LL (L ++ [q])) (one_map _ _) (fun L hL => ⟨_, rfl, ?_⟩) ?_
      · have z3 : L.length + 1 ≤ sizeLine := small (by have := allL_lenL q L hL; omega)
        simp [itD, z3, NI]
      · simp [-e_seq, z1, z2, allL]
    · rintro ρ S ⟨rfl, o4, rfl⟩
      simp [-e_seq]
      refine wps_forD (fun q ρ S' => ∃ o4 o6 o7 o8, S' = S ++ [.lst (evs ((((allL rs.length).take q).filter (frB (endsOf vs rs) vs.length)).map LL))] ∧ ρ = [some (.d (LD vs rs)), some (.d (.list ((endsOf vs rs).map ED))), some (.d (.int (vs.length : Int))), some (.d (RWS (allL rs.length))), o4, some (.own S.length), o6, o7, o8]) ⟨o4, none, none, none, by simp, rfl⟩ ?_ ?_
      · rintro q d hd ρ S' ⟨o4, o6, o7, o8, rfl, rfl⟩
        rw [List.getElem?_map] at hd
        cases hq : (allL rs.length)[q]? with
        | none => rw [hq] at hd; cases hd
        | some A =>
          rw [hq] at hd
          cases hd
          have hAm := List.mem_of_getElem? hq
          have hA := (allL_ok _ A hAm).2
          have hAl := allL_lenL _ A hAm
          have htk : (allL rs.length).take (q + 1) = (allL rs.length).take q ++ [A] := by rw [List.take_add_one, hq]; rfl
          refine ⟨_, rfl, ?_⟩
          simp [-e_seq]
          refine wp_lcM (cs := A) (fun k : Nat => itI (k : Int)) (fun k => ED ((endsOf vs rs).getD k (0, 0))) (one_NI _) (fun k hk => ⟨_, rfl, ?_⟩) ?_
          · have := EG_at (E := endsOf vs rs) (k := k) (by rw [eE]; exact hA k hk)
            simp [-List.getD_eq_getElem?_getD, itI, this]
          · rw [Fk_ED]
            have z1 : (Fk (endsOf vs rs) A).length ≤ sizeLine := by rw [Fk_len]; exact small (by omega)
            have hlab := labels_run (F := Fk (endsOf vs rs) A) (N := vs.length) (Fk_lt hEk fun k hk => by rw [eE]; exact hA k hk) (by omega)
            simp [-e_seq, z1, hlab]
            refine wp_lcM (cs := labs (Fk (endsOf vs rs) A) vs.length) (fun k : Nat => itI (k : Int)) (fun k => .tuple [.int (k : Int), .int 1]) (one_NI _) (fun k hk => ⟨_, rfl, ?_⟩) ?_
            · simp [itI]
            · have z3 : (labs (Fk (endsOf vs rs) A) vs.length).length ≤ sizeLine := by rw [labs_len]; exact small (by omega)
              have e3 : (labs (Fk (endsOf vs rs) A) vs.length).map (fun k : Nat => PyData.tuple [.int (k : Int), .int 1]) = ((labs (Fk (endsOf vs rs) A) vs.length).map fun i : Nat => ((.inl (i : Int) : Key), PyData.int 1)).map fun p => .tuple [keyD p.1, p.2] := by simp [keyD]
              have q1 : (S ++ [SO.lst (evs ((((allL rs.length).take q).filter (frB (endsOf vs rs) vs.length)).map LL))])[S.length]? = some (.lst (evs ((((allL rs.length).take q).filter (frB (endsOf vs rs) vs.length)).map LL))) := by simp
              have z2 : (evs ((((allL rs.length).take q).filter (frB (endsOf vs rs) vs.length)).map LL)).length < sizeLine := small' (by
                have hfl := List.length_filter_le (frB (endsOf vs rs) vs.length) ((allL rs.length).take q)
                have := List.length_take_le' q (allL rs.length)
                have h3 := allL_len rs.length
                have := p10 rs.length hR
                rw [evs_len, List.length_map]; omega)
              have hmk : mkLst (evs ((labs (Fk (endsOf vs rs) A) vs.length).map fun k : Nat => PyData.tuple [.int (k : Int), .int 1])) = mkLst (evs (((labs (Fk (endsOf vs rs) A) vs.length).map fun i : Nat => ((.inl (i : Int) : Key), PyData.int 1)).map fun p => .tuple [keyD p.1, p.2])) := by rw [e3]
              rw [hmk]
              have z4 : (((labs (Fk (endsOf vs rs) A) vs.length).map fun i : Nat => ((.inl (i : Int) : Key), PyData.int 1)).map fun p => PyData.tuple [keyD p.1, p.2]).length ≤ sizeLine := by simpa using z3
              rw [mkLst_evs, if_pos z4]
              simp only [wp_ok, bind_ok, e_cons, e_nil, e_call, dictP_run, len_dict, labs_many]
              simp [-e_seq, -List.map_map, dictP_run, labs_many]
              by_cases c : A.length + cn (Fk (endsOf vs rs) A) vs.length = vs.length
              · have ci : (A.length : Int) = (vs.length : Int) - (cn (Fk (endsOf vs rs) A) vs.length : Nat) := by omega
                simp [-e_seq, ci, kind_own q1, app_own q1 z2]
                rw [htk, List.filter_append, ll_snoc]
                simp [frB, c]
              · have ci : ¬ (A.length : Int) = (vs.length : Int) - (cn (Fk (endsOf vs rs) A) vs.length : Nat) := by omega
                simp [-e_seq, ci]
                rw [htk, List.filter_append]
                simp [frB, c]
      · rintro ρ S' ⟨o4, o6, o7, o8, rfl, rfl⟩
        rw [List.length_map, List.take_length]
        have q1 : (S ++ [SO.lst (evs (((allL rs.length).filter (frB (endsOf vs rs) vs.length)).map LL))])[S.length]? = some (.lst (evs (((allL rs.length).filter (frB (endsOf vs rs) vs.length)).map LL))) := by simp
        simp [-e_seq, frz_own q1]
  obtain ⟨v, S', e, rfl, rfl⟩ := key.ex
  exact e
end
end Z
set_option maxRecDepth 100000
set_option maxHeartbeats 4000000
/-! the law's tree over a set, its cuts -/
namespace Z
open PySem PySem.Spec PyProof.Rows L2
noncomputable def G_sides : GFn := runF n__law_sides (f__law_sides G_ends G_labs)
noncomputable def G_betw : GFn := runF n__law_between (f__law_between G_ends G_sides)
noncomputable def G_last : GFn := runF n__law_last_ones (f__law_last_ones G_betw)
section
variable {S : Store} {n p N : Nat} {vs : List Str} {rs : List (Str × Str × Str)} {E F : List (Nat × Nat)} {K T L : List Nat}
theorem sort_tov (G : Grd E N K E.length (grd E K E.length)) : sortI ((grd E K E.length).map fun k : Nat => (k : Int)) = (tov E K).map fun k : Nat => (k : Int) := by
  symm
  refine sortI_eq ((tov_perm G).map _).symm ?_
  have : (tov E K).Pairwise (· < ·) := asc_filter
  exact List.Pairwise.map _ (fun a b h => by omega) this
theorem conB_mi {x y : Nat} (hx : x < N) (hy : y < N) : decide (mi F N x = mi F N y) = conB F x y := by
  cases q : conB F x y with
  | true => rw [decide_eq_true_eq, mi_eq hx hy]; exact conB_iff.mp q
  | false => rw [decide_eq_false_iff_not, mi_eq hx hy]; exact conB_false.mp q
theorem inW_m1 : inW (-1) = true := inW_iff.mpr ⟨by omega, by omega⟩
theorem dn_get {R q : Nat} {it : Itm} (h : (dnL ((R : Int) - 1) R)[q]? = some it) : q < R ∧ it = itI ((R - 1 - q : Nat) : Int) := by
  unfold dnL at h
  rw [List.getElem?_map] at h
  have hq : q < R := by
    by_cases c : q < R
    · exact c
    · rw [List.getElem?_eq_none (by simpa using c)] at h; cases h
  simp [hq] at h
  refine ⟨hq, ?_⟩
  rw [← h, show (R : Int) - 1 + -(q : Int) = ((R - 1 - q : Nat) : Int) by omega]
  rfl
theorem dn_len {i : Int} {n : Nat} : (dnL i n).length = n := by simp [dnL]
theorem snoc_NI {A : List Nat} {k : Nat} : evs (NI A) ++ [.d (.int (k : Int))] = evs (NI (A ++ [k])) := by simp [evs, NI]
theorem ltov_run (L : LandOk vs rs) (hR : rs.length ≤ 10) (hv : vs.length ≤ 10) (hK : K.Nodup) (hlt : ∀ k ∈ K, k < rs.length) (ac : Ac (endsOf vs rs) vs.length K) (S : Store) :
    G_ltov [.d (LD vs rs), .d (LL K)] S = .ok (.d (LL (tov (endsOf vs rs) K))) (S ++ [.lst (evs (NI (grd (endsOf vs rs) K rs.length)))]) := by
  have hp := L.pos
  have eE := ends_len (vs := vs) (rs := rs)
  have hEk := land_EOk L
  have Gk := grd_ok hEk ac hK (fun k hk => by rw [eE]; exact hlt k hk)
  have glen : ∀ j, j ≤ rs.length → (grd (endsOf vs rs) K j).length ≤ rs.length := fun j hj => by
    have G := Gk j (by omega)
    have := nodup_le _ (List.range rs.length) G.nd fun a ha => List.mem_range.mpr (by have := G.lt a ha; omega)
    simpa using this
  have hKl : K.length ≤ rs.length := glen 0 (by omega)
  have wR : inW ((rs.length : Int) - 1) = true := inW_iff.mpr ⟨by omega, by omega⟩
  have hn : ((rs.length : Int) - 1 - -1).toNat = rs.length := by omega
  have key : Wp (G_ltov [.d (LD vs rs), .d (LL K)] S) (fun v S' => v = .d (LL (tov (endsOf vs rs) K)) ∧ S' = S ++ [.lst (evs (NI (grd (endsOf vs rs) K rs.length)))]) nox := by
    simp [-e_seq, G_ltov, f__law_tree_over, startR, ends_run L, eE, listO_list_ (show (NI K).length ≤ sizeLine by rw [NI_len]; exact small (by omega)), wR, inW_m1, hn]
    refine wps_for (fun q ρ S' => ∃ o4 o5, S' = S ++ [.lst (evs (NI (grd (endsOf vs rs) K q)))] ∧ ρ = [some (.d (LD vs rs)), some (.d (LL K)), some (.d (.list ((endsOf vs rs).map ED))), some (.own S.length), o4, o5, none]) ⟨none, none, rfl, rfl⟩ ?_ ?_
    · rintro q it hq ρ S' ⟨o4, o5, rfl, rfl⟩
      obtain ⟨hqR, rfl⟩ := dn_get hq
      obtain ⟨r, hr⟩ : ∃ r, r = rs.length - 1 - q := ⟨_, rfl⟩
      have hrE : r < (endsOf vs rs).length := by omega
      have G := Gk q (by omega)
      have gl := glen q (by omega)
      obtain ⟨M, hM⟩ : ∃ M, M = grd (endsOf vs rs) K q := ⟨_, rfl⟩
      have hstep : grd (endsOf vs rs) K (q + 1) = if conB (Fk (endsOf vs rs) M) (e1 (endsOf vs rs) r) (e2 (endsOf vs rs) r) = true then M else M ++ [r] := by
        rw [hM, hr, ← eE]; rfl
      rw [← hM] at G gl ⊢
      rw [← hr]
      have q1 : (S ++ [SO.lst (evs (NI M))])[S.length]? = some (.lst (evs (NI M))) := by simp
      refine ⟨_, rfl, ?_⟩
      simp [-e_seq, fixG_own q1]
      refine wp_lcGM (chk_own q1) (cs := M) (fun k : Nat => itI (k : Int)) (fun k => ED ((endsOf vs rs).getD k (0, 0))) (by rw [one_NI]) (fun k hk => ⟨_, rfl, ?_⟩) ?_
      · have := EG_at (E := endsOf vs rs) (k := k) (G.lt k hk)
        simp [-List.getD_eq_getElem?_getD, itI, this]
      · rw [Fk_ED]
        have z1 : (Fk (endsOf vs rs) M).length ≤ sizeLine := by rw [Fk_len]; exact small (by omega)
        have hlab := labels_run (F := Fk (endsOf vs rs) M) (N := vs.length) (Fk_lt hEk G.lt) (by omega)
        have hr1 := EG_at hrE
        obtain ⟨h1, h2⟩ := hEk r hrE
        have l1 := labs_at (F := Fk (endsOf vs rs) M) h1
        have l2 := labs_at (F := Fk (endsOf vs rs) M) h2
        have hED : ED ((endsOf vs rs).getD r (0, 0)) = .tuple [.int (e1 (endsOf vs rs) r : Nat), .int (e2 (endsOf vs rs) r : Nat)] := rfl
        have z2 : (evs (NI M)).length < sizeLine := small' (by rw [evs_len, NI_len]; omega)
        rw [hED] at hr1
        simp [-e_seq, -List.getD_eq_getElem?_getD, z1, hlab, hr1, ld0, ld1, l1, l2]
        have cB := conB_mi (F := Fk (endsOf vs rs) M) h1 h2
        by_cases c : mi (Fk (endsOf vs rs) M) vs.length (e1 (endsOf vs rs) r) = mi (Fk (endsOf vs rs) M) vs.length (e2 (endsOf vs rs) r)
        · rw [decide_eq_true c] at cB
          simp [-e_seq, -List.getD_eq_getElem?_getD, c]
          rw [hstep, if_pos cB.symm]
        · rw [decide_eq_false c] at cB
          have ci : ¬ (mi (Fk (endsOf vs rs) M) vs.length (e1 (endsOf vs rs) r) : Int) = (mi (Fk (endsOf vs rs) M) vs.length (e2 (endsOf vs rs) r) : Nat) := by omega
          have ci2 : ((mi (Fk (endsOf vs rs) M) vs.length (e1 (endsOf vs rs) r) : Int) == (mi (Fk (endsOf vs rs) M) vs.length (e2 (endsOf vs rs) r) : Nat)) = false := by simpa using ci
          simp [-e_seq, -List.getD_eq_getElem?_getD, c, ci, ci2, kind_own q1, app_own q1 z2]
          rw [hstep, if_neg (by rw [← cB]; simp), snoc_NI]
    · rintro ρ S' ⟨o4, o5, rfl, rfl⟩
      rw [dn_len]
      have G := Gk rs.length (by omega)
      have gl := glen rs.length (by omega)
      have G' : Grd (endsOf vs rs) vs.length K (endsOf vs rs).length (grd (endsOf vs rs) K (endsOf vs rs).length) := by rw [eE]; exact G
      have q1 : (S ++ [SO.lst (evs (NI (grd (endsOf vs rs) K rs.length)))])[S.length]? = some (.lst (evs (II ((grd (endsOf vs rs) K rs.length).map fun k : Nat => (k : Int))))) := by simp [NI_II]
      have hs := sorted_own q1 (by rw [List.length_map]; omega)
      have e3 := sort_tov G'
      rw [eE] at e3
      rw [e3, ← NI_II] at hs
      simp [-e_seq, hs]
  obtain ⟨v, S', e, rfl, rfl⟩ := key.ex
  exact e
/-! ### cuts -/
/-- rows by roads -/
def kvN (T : List Nat) (f : Nat → PyData) : List (Key × PyData) := T.map fun k : Nat => ((.inl (k : Int) : Key), f k)
theorem kvN_look {f : Nat → PyData} {k : Nat} : ∀ {T : List Nat}, k ∈ T → klook ((kvN T f).map fun p => (p.1, EV.d p.2)) (.inl (k : Int)) = some (.d (f k))
  | x :: r, h => by
    show (if (Sum.inl (x : Int) : Key) = .inl (k : Int) then some (EV.d (f x)) else klook ((kvN r f).map fun p => (p.1, EV.d p.2)) (.inl (k : Int))) = _
    by_cases q : x = k
    · subst q; simp
    · have q' : (Sum.inl (x : Int) : Key) ≠ .inl (k : Int) := fun z => q (by injection z with z; omega)
      rw [if_neg q']
      exact kvN_look ((List.mem_cons.mp h).resolve_left fun z => q z.symm)
theorem kvN_ix {f : Nat → PyData} {k : Nat} (h : k ∈ T) (S : Store) : gIx (.d (.dict (kvD (kvN T f)))) (.d (.int (k : Int))) S = .ok (.d (f k)) S := dict_ix rfl (kvN_look h)
theorem kvN_put {f : Nat → PyData} {k : Nat} (h : k ∉ T) : kputE (evK (kvN T f)) (.inl (k : Int)) (.d (f k)) = evK (kvN (T ++ [k]) f) := by
  unfold kputE
  have : ¬ ((evK (kvN T f)).any fun kv => decide (kv.1 = (.inl (k : Int) : Key))) = true := by
    simp only [List.any_eq_true, decide_eq_true_eq, evK, kvN, List.map_map, List.mem_map, Function.comp_apply]
    rintro ⟨_, ⟨x, hx, rfl⟩, e⟩
    injection e with e
    exact h (by rwa [show x = k by omega] at hx)
  rw [if_neg this]
  simp [evK, kvN]
theorem evK_len {kv : List (Key × PyData)} : (evK kv).length = kv.length := by simp [evK]
theorem kvN_len {f : Nat → PyData} : (kvN T f).length = T.length := by simp [kvN]
theorem wo_filter {k : Nat} : (T.filter fun j => decide (j ≠ k)) = wo T k := rfl
theorem sides_run (L : LandOk vs rs) (hv : vs.length ≤ 10) (hT : T.Nodup) (hlt : ∀ k ∈ T, k < rs.length) (hl : T.length ≤ 10) (S : Store) :
    G_sides [.d (LD vs rs), .d (LL T)] S = .ok (.d (.dict (kvD (kvN T fun k => .list (NI (labs (Fk (endsOf vs rs) (wo T k)) vs.length)))))) (S ++ [.gone]) := by
  have eE := ends_len (vs := vs) (rs := rs)
  have hEk := land_EOk L
  have key : Wp (G_sides [.d (LD vs rs), .d (LL T)] S) (fun v S' => v = .d (.dict (kvD (kvN T fun k => .list (NI (labs (Fk (endsOf vs rs) (wo T k)) vs.length))))) ∧ S' = S ++ [.gone]) nox := by
    simp [-e_seq, G_sides, f__law_sides, startR, ends_run L]
    refine wps_forD (fun q ρ S' => ∃ o4, S' = S ++ [.dct (evK (kvN (T.take q) fun k => .list (NI (labs (Fk (endsOf vs rs) (wo T k)) vs.length))))] ∧ ρ = [some (.d (LD vs rs)), some (.d (LL T)), some (.d (.list ((endsOf vs rs).map ED))), some (.own S.length), o4, none]) ⟨none, by simp [kvN, evK], rfl⟩ ?_ ?_
    · rintro q d hd ρ S' ⟨o4, rfl, rfl⟩
      rw [NI_get] at hd
      cases hq : T[q]? with
      | none => rw [hq] at hd; cases hd
      | some k =>
        rw [hq] at hd
        cases hd
        have hkT := List.mem_of_getElem? hq
        have htk : T.take (q + 1) = T.take q ++ [k] := by rw [List.take_add_one, hq]; rfl
        have hkn : k ∉ T.take q := fun z => by
          have h1 : (T.take (q + 1)).Nodup := hT.sublist (List.take_sublist _ _)
          rw [htk] at h1
          exact (List.nodup_append.mp h1).2.2 k z k (by simp) rfl
        refine ⟨_, rfl, ?_⟩
        simp [-e_seq]
        refine wp_lcF (cs := T) (fun k : Nat => itI (k : Int)) (fun j => decide (j ≠ k)) (fun k => ED ((endsOf vs rs).getD k (0, 0))) (one_NI _) (fun j hj => ⟨_, rfl, ?_⟩) ?_
        · have := EG_at (E := endsOf vs rs) (k := j) (by rw [eE]; exact hlt j hj)
          by_cases c : j = k
          · subst c; simp [-List.getD_eq_getElem?_getD, itI]
          · have c2 : ¬ (j : Int) = (k : Int) := by omega
            have c3 : ((j : Int) == (k : Int)) = false := by simpa using c2
            simp [-List.getD_eq_getElem?_getD, itI, this, c, c2, c3]
        · rw [wo_filter, Fk_ED]
          have wl : (wo T k).length ≤ 10 := Nat.le_trans (List.length_filter_le _ _) hl
          have z1 : (Fk (endsOf vs rs) (wo T k)).length ≤ sizeLine := by rw [Fk_len]; exact small (by omega)
          have hlab := labels_run (F := Fk (endsOf vs rs) (wo T k)) (N := vs.length) (Fk_lt hEk fun j hj => by rw [eE]; exact hlt j (wo_mem.mp hj).1) (by omega)
          have q1 : (S ++ [SO.dct (evK (kvN (T.take q) fun k => .list (NI (labs (Fk (endsOf vs rs) (wo T k)) vs.length))))])[S.length]? = some (.dct (evK (kvN (T.take q) fun k => .list (NI (labs (Fk (endsOf vs rs) (wo T k)) vs.length))))) := by simp
          have hput := putK_own (y := .d (.list (NI (labs (Fk (endsOf vs rs) (wo T k)) vs.length)))) (d := .int (k : Int)) (k := .inl (k : Int)) q1 rfl (small' (by rw [evK_len, kvN_len]; have := List.length_take_le' q T; omega))
          rw [kvN_put (f := fun k => .list (NI (labs (Fk (endsOf vs rs) (wo T k)) vs.length))) hkn, ← htk] at hput
          simp [-e_seq, z1, hlab, hput]
    · rintro ρ S' ⟨o4, rfl, rfl⟩
      rw [NI_len, List.take_length]
      have q1 : (S ++ [SO.dct (evK (kvN T fun k => .list (NI (labs (Fk (endsOf vs rs) (wo T k)) vs.length))))])[S.length]? = some (.dct (evK (kvN T fun k => .list (NI (labs (Fk (endsOf vs rs) (wo T k)) vs.length))))) := by simp
      simp [-e_seq, frzK_own q1]
  obtain ⟨v, S', e, rfl, rfl⟩ := key.ex
  exact e
theorem betw_run (L : LandOk vs rs) (hR : rs.length ≤ 10) (hv : vs.length ≤ 10) (hT : T.Nodup) (hlt : ∀ k ∈ T, k < rs.length) (hl : T.length ≤ 10) (S : Store) :
    G_betw [.d (LD vs rs), .d (LL T)] S = .ok (.d (.dict (kvD (kvN T fun k => .list (NI (cutR (endsOf vs rs) T k)))))) (S ++ [.gone, .gone]) := by
  have eE := ends_len (vs := vs) (rs := rs)
  have hEk := land_EOk L
  have wR : inW (rs.length : Int) = true := inW_nat (by omega)
  have key : Wp (G_betw [.d (LD vs rs), .d (LL T)] S) (fun v S' => v = .d (.dict (kvD (kvN T fun k => .list (NI (cutR (endsOf vs rs) T k))))) ∧ S' = S ++ [.gone, .gone]) nox := by
    simp [-e_seq, G_betw, f__law_between, startR, ends_run L, sides_run L hv hT hlt hl]
    refine wps_forD (fun q ρ S' => ∃ o5, S' = S ++ [.dct (evK (kvN (T.take q) fun k => .list (NI (cutR (endsOf vs rs) T k)))), .gone] ∧ ρ = [some (.d (LD vs rs)), some (.d (LL T)), some (.d (.list ((endsOf vs rs).map ED))), some (.own S.length), some (.d (.dict (kvD (kvN T fun k => .list (NI (labs (Fk (endsOf vs rs) (wo T k)) vs.length)))))), o5, none]) ⟨none, by simp [kvN, evK], rfl⟩ ?_ ?_
    · rintro q d hd ρ S' ⟨o5, rfl, rfl⟩
      rw [NI_get] at hd
      cases hq : T[q]? with
      | none => rw [hq] at hd; cases hd
      | some k =>
        rw [hq] at hd
        cases hd
        have hkT := List.mem_of_getElem? hq
        have htk : T.take (q + 1) = T.take q ++ [k] := by rw [List.take_add_one, hq]; rfl
        have hkn : k ∉ T.take q := fun z => by
          have h1 : (T.take (q + 1)).Nodup := hT.sublist (List.take_sublist _ _)
          rw [htk] at h1
          exact (List.nodup_append.mp h1).2.2 k z k (by simp) rfl
        refine ⟨_, rfl, ?_⟩
        simp [-e_seq, eE, wR]
        refine wp_lcF (cs := List.range rs.length) (fun k : Nat => itI (0 + (k : Int))) (fun j => !conB (Fk (endsOf vs rs) (wo T k)) (e1 (endsOf vs rs) j) (e2 (endsOf vs rs) j)) (fun j => .int (j : Int)) (rngL_map _ _) (fun j hj => ⟨_, rfl, ?_⟩) ?_
        · have hj := List.mem_range.mp hj
          have hr1 := EG_at (E := endsOf vs rs) (k := j) (by omega)
          obtain ⟨h1, h2⟩ := hEk j (by omega)
          have l1 := labs_at (F := Fk (endsOf vs rs) (wo T k)) h1
          have l2 := labs_at (F := Fk (endsOf vs rs) (wo T k)) h2
          have hED : ED ((endsOf vs rs).getD j (0, 0)) = .tuple [.int (e1 (endsOf vs rs) j : Nat), .int (e2 (endsOf vs rs) j : Nat)] := rfl
          rw [hED] at hr1
          have cB := conB_mi (F := Fk (endsOf vs rs) (wo T k)) h1 h2
          have ci : ((mi (Fk (endsOf vs rs) (wo T k)) vs.length (e1 (endsOf vs rs) j) : Int) == (mi (Fk (endsOf vs rs) (wo T k)) vs.length (e2 (endsOf vs rs) j) : Nat)) = conB (Fk (endsOf vs rs) (wo T k)) (e1 (endsOf vs rs) j) (e2 (endsOf vs rs) j) := by
            rw [← cB]
            by_cases c : mi (Fk (endsOf vs rs) (wo T k)) vs.length (e1 (endsOf vs rs) j) = mi (Fk (endsOf vs rs) (wo T k)) vs.length (e2 (endsOf vs rs) j)
            · simp [c]
            · have : ¬ (mi (Fk (endsOf vs rs) (wo T k)) vs.length (e1 (endsOf vs rs) j) : Int) = (mi (Fk (endsOf vs rs) (wo T k)) vs.length (e2 (endsOf vs rs) j) : Nat) := by omega
              simp [c, this]
          simp [-List.getD_eq_getElem?_getD, itI, kvN_ix hkT, hr1, ld0, ld1, l1, l2, ci]
        · have ec : (List.range rs.length).filter (fun j => !conB (Fk (endsOf vs rs) (wo T k)) (e1 (endsOf vs rs) j) (e2 (endsOf vs rs) j)) = cutR (endsOf vs rs) T k := by unfold cutR; rw [eE]
          rw [ec]
          have z1 : (cutR (endsOf vs rs) T k).length ≤ sizeLine := small (by
            have := List.length_filter_le (fun j => !conB (Fk (endsOf vs rs) (wo T k)) (e1 (endsOf vs rs) j) (e2 (endsOf vs rs) j)) (List.range rs.length)
            rw [ec, List.length_range] at this; omega)
          have q1 : (S ++ [SO.dct (evK (kvN (T.take q) fun k => .list (NI (cutR (endsOf vs rs) T k)))), .gone])[S.length]? = some (.dct (evK (kvN (T.take q) fun k => .list (NI (cutR (endsOf vs rs) T k))))) := by simp
          have hput := putK_own (y := .d (.list (NI (cutR (endsOf vs rs) T k)))) (d := .int (k : Int)) (k := .inl (k : Int)) q1 rfl (small' (by rw [evK_len, kvN_len]; have := List.length_take_le' q T; omega))
          rw [kvN_put (f := fun k => .list (NI (cutR (endsOf vs rs) T k))) hkn, ← htk] at hput
          have eN : (cutR (endsOf vs rs) T k).map (fun j : Nat => PyData.int (j : Int)) = NI (cutR (endsOf vs rs) T k) := rfl
          rw [eN]
          simp [-e_seq, z1, hput]
    · rintro ρ S' ⟨o5, rfl, rfl⟩
      rw [NI_len, List.take_length]
      have q1 : (S ++ [SO.dct (evK (kvN T fun k => .list (NI (cutR (endsOf vs rs) T k)))), .gone])[S.length]? = some (.dct (evK (kvN T fun k => .list (NI (cutR (endsOf vs rs) T k))))) := by simp
      simp [-e_seq, frzK_own q1]
  obtain ⟨v, S', e, rfl, rfl⟩ := key.ex
  exact e
theorem max_last {k : Nat} (h : k ∈ cutR E T k) : decide (maxI ((cutR E T k).map fun j : Nat => (j : Int)) = (k : Int)) = lastB E T (cutR E T) k := by
  have hm : (k : Int) ∈ (cutR E T k).map fun j : Nat => (j : Int) := List.mem_map.mpr ⟨k, h, rfl⟩
  have h1 := maxI_le (k : Int) hm
  cases q : lastB E T (cutR E T) k with
  | true =>
    rw [decide_eq_true_eq]
    refine (maxI_eq hm fun a ha => ?_).symm
    obtain ⟨j, hj, rfl⟩ := List.mem_map.mp ha
    have := lastB_iff.mp q j hj
    omega
  | false =>
    rw [decide_eq_false_iff_not]
    intro e
    have : lastB E T (cutR E T) k = true := lastB_iff.mpr fun j hj => by
      have := maxI_le (ns := (cutR E T k).map fun j : Nat => (j : Int)) (j : Int) (List.mem_map.mpr ⟨j, hj, rfl⟩)
      omega
    rw [this] at q; cases q
theorem last_run (L : LandOk vs rs) (hR : rs.length ≤ 10) (hv : vs.length ≤ 10) (hT : T.Nodup) (hlt : ∀ k ∈ T, k < rs.length) (hl : T.length ≤ 10) (self : ∀ k ∈ T, k ∈ cutR (endsOf vs rs) T k) (S : Store) :
    G_last [.d (LD vs rs), .d (LL T)] S = .ok (.d (LL (T.filter (lastB (endsOf vs rs) T (cutR (endsOf vs rs) T))))) (S ++ [.gone, .gone]) := by
  have key : Wp (G_last [.d (LD vs rs), .d (LL T)] S) (fun v S' => v = .d (LL (T.filter (lastB (endsOf vs rs) T (cutR (endsOf vs rs) T)))) ∧ S' = S ++ [.gone, .gone]) nox := by
    simp [-e_seq, G_last, f__law_last_ones, startR, betw_run L hR hv hT hlt hl]
    refine wp_lcF (cs := T) (fun k : Nat => itI (k : Int)) (lastB (endsOf vs rs) T (cutR (endsOf vs rs) T)) (fun j => .int (j : Int)) (one_NI _) (fun k hk => ⟨_, rfl, ?_⟩) ?_
    · have hmx := maxN_run (xs := cutR (endsOf vs rs) T k) (List.length_pos_of_mem (self k hk))
      have h1 := max_last (self k hk)
      have h2 : (maxI ((cutR (endsOf vs rs) T k).map fun j : Nat => (j : Int)) == (k : Int)) = lastB (endsOf vs rs) T (cutR (endsOf vs rs) T) k := by
        rw [← h1]
        by_cases c : maxI ((cutR (endsOf vs rs) T k).map fun j : Nat => (j : Int)) = (k : Int)
        · simp [c]
        · simp [c]
      simp [itI, kvN_ix hk, hmx, h2]
    · have z1 : (T.filter (lastB (endsOf vs rs) T (cutR (endsOf vs rs) T))).length ≤ sizeLine := small (by
        have := List.length_filter_le (lastB (endsOf vs rs) T (cutR (endsOf vs rs) T)) T
        omega)
      have eN : (T.filter (lastB (endsOf vs rs) T (cutR (endsOf vs rs) T))).map (fun j : Nat => PyData.int (j : Int)) = NI (T.filter (lastB (endsOf vs rs) T (cutR (endsOf vs rs) T))) := rfl
      rw [eN]
      simp [z1]
  obtain ⟨v, S', e, rfl, rfl⟩ := key.ex
  exact e
end
end Z
set_option maxRecDepth 100000
set_option maxHeartbeats 4000000
/-! the program: cut_roads, inner_level, tree_over -/
namespace Z
open PySem PySem.Spec PyProof.Rows L2
noncomputable def G_rnum : GFn := runF n_road_numbers f_road_numbers
noncomputable def G_cut : GFn := runF n_cut_roads (f_cut_roads G_reached)
noncomputable def G_inof : GFn := runF n_inner_of (f_inner_of G_cut)
noncomputable def G_inlev : GFn := runF n_inner_level (f_inner_level G_inof G_pairs G_rnum)
noncomputable def G_ptov : GFn := runF n_tree_over (f_tree_over G_pairs G_reached G_rnum)
section
variable {S : Store} {n p N : Nat} {vs : List Str} {rs : List (Str × Str × Str)} {E F : List (Nat × Nat)} {K T L : List Nat}
theorem rnm_ok (L : LandOk vs rs) {k : Nat} (hk : k < rs.length) : PyData.strOk (rnm rs k) = true := by
  have : rnm rs k = rs[k].1 := by simp [rnm, hk]
  rw [this]
  exact L.nok _ (List.getElem_mem hk)
theorem rnm_inj (nd : (rs.map (·.1)).Nodup) {j k : Nat} (hj : j < rs.length) (hk : k < rs.length) (h : rnm rs j = rnm rs k) : j = k := by
  have e1 : rnm rs j = (rs.map (·.1))[j]'(by simpa using hj) := by simp [rnm, hj]
  have e2 : rnm rs k = (rs.map (·.1))[k]'(by simpa using hk) := by simp [rnm, hk]
  rw [e1, e2] at h
  exact (List.getElem_inj nd).mp h
theorem rnum_run (L : LandOk vs rs) (nd : (rs.map (·.1)).Nodup) (hR : rs.length ≤ 10) (asc : K.Pairwise (· < ·)) (hlt : ∀ k ∈ K, k < rs.length) (S : Store) :
    G_rnum [.d (LD vs rs), .d (RN rs K)] S = .ok (.own S.length) (S ++ [.lst (evs (NI K))]) := by
  have key : Wp (G_rnum [.d (LD vs rs), .d (RN rs K)] S) (fun v S' => v = .own S.length ∧ S' = S ++ [.lst (evs (NI K))]) nox := by
    simp [-e_seq, G_rnum, f_road_numbers, startR]
    refine wp_lcF (cs := List.range rs.length) _ (fun k => decide (k ∈ K)) (fun k => .int (k : Int)) (en_range RD (Str.empty, Str.empty, Str.empty) rs) (fun k hk => ⟨_, rfl, ?_⟩) ?_
    · have hk := List.mem_range.mp hk
      have e1 : RD (rs.getD k (Str.empty, Str.empty, Str.empty)) = RD rs[k] := by simp [hk]
      have hok := rnm_ok L hk
      have e2 : rnm rs k = rs[k].1 := by simp [rnm, hk]
      rw [e2] at hok
      have hin := in_strs (S := S) (neg := false) (a := rs[k].1) (ys := K.map (rnm rs)) hok (fun y hy => by
        obtain ⟨j, hj, rfl⟩ := List.mem_map.mp hy
        exact rnm_ok L (hlt j hj))
      have hRN : PyData.tuple ((K.map (rnm rs)).map .str) = RN rs K := by simp [RN]
      rw [hRN] at hin
      have hdec : decide (rs[k].1 ∈ K.map (rnm rs)) = decide (k ∈ K) := by
        by_cases c : k ∈ K
        · rw [decide_eq_true c, decide_eq_true_eq, ← e2]
          exact List.mem_map.mpr ⟨k, c, rfl⟩
        · rw [decide_eq_false c, decide_eq_false_iff_not]
          intro z
          obtain ⟨j, hj, e⟩ := List.mem_map.mp z
          rw [← e2] at e
          exact c ((rnm_inj nd (hlt j hj) hk e) ▸ hj)
      rw [hdec, Bool.false_xor] at hin
      rw [e1]
      simp [-List.getD_eq_getElem?_getD, RD, rd0 (i := 0), hin]
    · have ec : (List.range rs.length).filter (fun k => decide (k ∈ K)) = K := asc_ord asc hlt
      rw [ec]
      have z : (evs (K.map fun k : Nat => PyData.int (k : Int))).length ≤ sizeLine := by
        rw [evs_len, List.length_map]
        have := nodup_le K (List.range rs.length) (asc.imp fun h => Nat.ne_of_lt h) fun a ha => List.mem_range.mpr (hlt a ha)
        exact small (by rw [List.length_range] at this; omega)
      rw [mkOwn_of z]
      exact ⟨rfl, rfl⟩
  obtain ⟨v, S', e, rfl, rfl⟩ := key.ex
  exact e
theorem land_ne (L : LandOk vs rs) : ∀ e ∈ endsOf vs rs, e.1 ≠ e.2 := fun e he => by
  obtain ⟨r, hr, rfl⟩ := List.mem_map.mp he
  obtain ⟨h1, h2, h3⟩ := L.ends r hr
  intro z
  have g1 := List.getElem_idxOf (List.idxOf_lt_length_iff.mpr h1)
  have g2 := List.getElem_idxOf (List.idxOf_lt_length_iff.mpr h2)
  refine h3 (g1.symm.trans (Eq.trans ?_ g2))
  have : vs.idxOf r.2.1 = vs.idxOf r.2.2 := z
  simp only [this]
theorem Fk_ne (L : LandOk vs rs) (hlt : ∀ k ∈ K, k < rs.length) : ∀ e ∈ Fk (endsOf vs rs) K, e.1 < vs.length ∧ e.2 < vs.length ∧ e.1 ≠ e.2 := fun e he => by
  obtain ⟨k, hk, rfl⟩ := Fk_mem.mp he
  have hk' : k < (endsOf vs rs).length := by rw [ends_len]; exact hlt k hk
  rw [getD_at hk']
  have hm := List.getElem_mem hk'
  exact ⟨(ends_lt L _ hm).1, (ends_lt L _ hm).2, land_ne L _ hm⟩
theorem cut_run (L : LandOk vs rs) (hR : rs.length ≤ 10) (hv : vs.length ≤ 10) (hlt : ∀ k ∈ T, k < rs.length) (hl : T.length ≤ 10) {k : Nat} (hk : k < rs.length) (S : Store) :
    Wp (G_cut [.d (.int (vs.length : Int)), .d (.list ((endsOf vs rs).map ED)), .d (LL T), .d (.int (k : Int))] S) (fun v S' => v = .d (LL (cutP (endsOf vs rs) T k)) ∧ ∃ X, S' = S ++ X) nox := by
  have eE := ends_len (vs := vs) (rs := rs)
  have hEk := land_EOk L
  simp [-e_seq, G_cut, f_cut_roads, startR]
  refine wp_lcF (cs := T) (fun k : Nat => itI (k : Int)) (fun j => decide (j ≠ k)) (fun k => ED ((endsOf vs rs).getD k (0, 0))) (one_NI _) (fun j hj => ⟨_, rfl, ?_⟩) ?_
  · have := EG_at (E := endsOf vs rs) (k := j) (by rw [eE]; exact hlt j hj)
    by_cases c : j = k
    · subst c; simp [-List.getD_eq_getElem?_getD, itI]
    · have c2 : ¬ (j : Int) = (k : Int) := by omega
      have c3 : ((j : Int) == (k : Int)) = false := by simpa using c2
      simp [-List.getD_eq_getElem?_getD, itI, this, c, c2, c3]
  · rw [wo_filter, Fk_ED]
    have wl : (wo T k).length ≤ 10 := Nat.le_trans (List.length_filter_le _ _) hl
    have z1 : (Fk (endsOf vs rs) (wo T k)).length ≤ sizeLine := by rw [Fk_len]; exact small (by omega)
    have hr1 := EG_at (E := endsOf vs rs) (k := k) (by omega)
    have hED : ED ((endsOf vs rs).getD k (0, 0)) = .tuple [.int (e1 (endsOf vs rs) k : Nat), .int (e2 (endsOf vs rs) k : Nat)] := rfl
    rw [hED] at hr1
    have h1 := (hEk k (by omega)).1
    have eA : PyData.list [.int (e1 (endsOf vs rs) k : Nat)] = .list (NI [e1 (endsOf vs rs) k]) := rfl
    simp [-e_seq, -List.getD_eq_getElem?_getD, z1, hr1, ld0, eA]
    refine (wp_reached (F := Fk (endsOf vs rs) (wo T k)) (N := vs.length) (A := [e1 (endsOf vs rs) k]) (Fk_ne L fun j hj => hlt j (wo_mem.mp hj).1) (by rw [Fk_len]; omega) (by omega) (by simp) (by simpa using h1)).imp ?_
    rintro v S' ⟨M, rfl, ⟨X, rfl⟩, ndM, ltM, hM⟩
    simp [-e_seq]
    have hMB : ∀ x, decide (x ∈ M) = conB (Fk (endsOf vs rs) (wo T k)) (e1 (endsOf vs rs) k) x := fun x => by
      cases q : conB (Fk (endsOf vs rs) (wo T k)) (e1 (endsOf vs rs) k) x with
      | true => rw [decide_eq_true_eq, hM, urc_con]; exact conB_iff.mp q
      | false => rw [decide_eq_false_iff_not, hM, urc_con]; exact conB_false.mp q
    refine wp_lcF (cs := List.range (endsOf vs rs).length) _ (fun j => conB (Fk (endsOf vs rs) (wo T k)) (e1 (endsOf vs rs) k) (e1 (endsOf vs rs) j) != conB (Fk (endsOf vs rs) (wo T k)) (e1 (endsOf vs rs) k) (e2 (endsOf vs rs) j)) (fun k => .int (k : Int)) (en_range ED (0, 0) (endsOf vs rs)) (fun j hj => ⟨_, rfl, ?_⟩) ?_
    · have hEDj : ED ((endsOf vs rs).getD j (0, 0)) = .tuple [.int (e1 (endsOf vs rs) j : Nat), .int (e2 (endsOf vs rs) j : Nat)] := rfl
      obtain ⟨a, ha⟩ : ∃ a, a = e1 (endsOf vs rs) j := ⟨_, rfl⟩
      obtain ⟨b, hb⟩ : ∃ b, b = e2 (endsOf vs rs) j := ⟨_, rfl⟩
      rw [← ha, ← hb] at hEDj ⊢
      rw [← hMB a, ← hMB b]
      have sb : ∀ x : Bool, SeqAt.shaped (.bool x) = true := fun x => by cases x <;> rfl
      have eqb : ∀ x y : Bool, PyData.eqv (.bool x) (.bool y) = (x == y) := fun x y => by cases x <;> cases y <;> rfl
      have hne : ∀ (x y : Bool) (S : Store), gEq true (.d (.bool x)) (.d (.bool y)) S = .ok (.d (.bool (x != y))) S := fun x y S => by
        rw [eq_run (sb x) (sb y), eqb]
        cases x <;> cases y <;> rfl
      simp [-List.getD_eq_getElem?_getD, hEDj, hne]
      rw [ha, hb]
    · have ec : (List.range (endsOf vs rs).length).filter (fun j => conB (Fk (endsOf vs rs) (wo T k)) (e1 (endsOf vs rs) k) (e1 (endsOf vs rs) j) != conB (Fk (endsOf vs rs) (wo T k)) (e1 (endsOf vs rs) k) (e2 (endsOf vs rs) j)) = cutP (endsOf vs rs) T k := rfl
      rw [ec]
      have z2 : (cutP (endsOf vs rs) T k).length ≤ sizeLine := small (by
        have := List.length_filter_le (fun j => conB (Fk (endsOf vs rs) (wo T k)) (e1 (endsOf vs rs) k) (e1 (endsOf vs rs) j) != conB (Fk (endsOf vs rs) (wo T k)) (e1 (endsOf vs rs) k) (e2 (endsOf vs rs) j)) (List.range (endsOf vs rs).length)
        rw [ec, List.length_range] at this; omega)
      have eN : (cutP (endsOf vs rs) T k).map (fun j : Nat => PyData.int (j : Int)) = NI (cutP (endsOf vs rs) T k) := rfl
      rw [eN]
      simp [z2]
theorem inof_run (L : LandOk vs rs) (hR : rs.length ≤ 10) (hv : vs.length ≤ 10) (t : TreeR (endsOf vs rs) vs.length T) (hl : T.length ≤ 10) (S : Store) :
    Wp (G_inof [.d (.int (vs.length : Int)), .d (.list ((endsOf vs rs).map ED)), .d (LL T)] S) (fun v S' => v = .d (.int ((T.filter (lastB (endsOf vs rs) T (cutR (endsOf vs rs) T))).length : Int)) ∧ ∃ X, S' = S ++ X) nox := by
  have eE := ends_len (vs := vs) (rs := rs)
  have hEk := land_EOk L
  have hlt : ∀ k ∈ T, k < rs.length := fun k hk => by have := t.lt k hk; omega
  simp [-e_seq, G_inof, f_inner_of, startR]
  refine wp_collI (fun q acc S' => acc = evs (List.replicate ((T.take q).filter (lastB (endsOf vs rs) T (cutR (endsOf vs rs) T))).length (.int 1)) ∧ ∃ X, S' = S ++ X) ⟨rfl, [], by simp⟩ ?_ ?_
  · rintro q it hq acc S' ⟨rfl, X, rfl⟩
    rw [one_NI, List.getElem?_map] at hq
    cases hq2 : T[q]? with
    | none => rw [hq2] at hq; cases hq
    | some k =>
      rw [hq2] at hq
      cases hq
      have hkT := List.mem_of_getElem? hq2
      have htk : T.take (q + 1) = T.take q ++ [k] := by rw [List.take_add_one, hq2]; rfl
      refine ⟨_, rfl, ?_⟩
      simp [-e_seq, itI]
      refine (cut_run L hR hv hlt hl (hlt k hkT) _).imp ?_
      rintro v S2 ⟨rfl, Y, rfl⟩
      rw [cutP_eq hEk t hkT]
      have self := t.self hEk hkT
      have hmx := maxN_run (xs := cutR (endsOf vs rs) T k) (List.length_pos_of_mem self)
      have h1 := max_last self
      have h2 : (maxI ((cutR (endsOf vs rs) T k).map fun j : Nat => (j : Int)) == (k : Int)) = lastB (endsOf vs rs) T (cutR (endsOf vs rs) T) k := by
        rw [← h1]
        by_cases c : maxI ((cutR (endsOf vs rs) T k).map fun j : Nat => (j : Int)) = (k : Int)
        · simp [c]
        · simp [c]
      simp [-e_seq, hmx, h2]
      rw [htk, List.filter_append]
      cases c : lastB (endsOf vs rs) T (cutR (endsOf vs rs) T) k with
      | true =>
        simp [-e_seq, c, List.replicate_succ']
        simp [evs]
      | false =>
        simp [-e_seq, c]
  · rintro ys S' ⟨rfl, X, rfl⟩
    rw [one_NI, List.length_map, List.take_length]
    have e2 : List.replicate (T.filter (lastB (endsOf vs rs) T (cutR (endsOf vs rs) T))).length (PyData.int 1) = (List.replicate (T.filter (lastB (endsOf vs rs) T (cutR (endsOf vs rs) T))).length (1 : Int)).map .int := by simp
    rw [e2, mkSum_ints]
    have : ∀ m : Nat, (List.replicate m (1 : Int)).sum = (m : Int) := fun m => by
      induction m with
      | zero => rfl
      | succ m ih => rw [List.replicate_succ, List.sum_cons, ih]; omega
    rw [this]
    exact ⟨rfl, X, rfl⟩
theorem inlev_run (L : LandOk vs rs) (nd : (rs.map (·.1)).Nodup) (hR : rs.length ≤ 10) (hv : vs.length ≤ 10) (t : TreeR (endsOf vs rs) vs.length T) (asc : T.Pairwise (· < ·)) (hl : T.length ≤ 10) (S : Store) :
    Wp (G_inlev [.d (LD vs rs), .d (RN rs T)] S) (fun v S' => v = .d (.int ((T.filter (lastB (endsOf vs rs) T (cutR (endsOf vs rs) T))).length : Int)) ∧ ∃ X, S' = S ++ X) nox := by
  have eE := ends_len (vs := vs) (rs := rs)
  have hlt : ∀ k ∈ T, k < rs.length := fun k hk => by have := t.lt k hk; omega
  have q1 : (S ++ [SO.lst (evs (NI T))])[S.length]? = some (.lst (evs (NI T))) := by simp
  simp [-e_seq, G_inlev, f_inner_level, startR, pairs_run L, rnum_run L nd hR asc hlt, frz_own q1]
  refine (inof_run L hR hv t hl _).imp ?_
  rintro v S' ⟨rfl, X, rfl⟩
  refine ⟨rfl, SO.gone :: X, by simp⟩
/-- a changing list among other things -/
theorem mid_get {o : SO} {X : Store} : (S ++ [o] ++ X)[S.length]? = some o := by simp
theorem mid_set {o u : SO} {X : Store} : (S ++ [o] ++ X).set S.length u = S ++ [u] ++ X := by simp
theorem ptov_run (L : LandOk vs rs) (nd : (rs.map (·.1)).Nodup) (hR : rs.length ≤ 10) (hv : vs.length ≤ 10) (asc : K.Pairwise (· < ·)) (hlt : ∀ k ∈ K, k < rs.length) (ac : Ac (endsOf vs rs) vs.length K) (S : Store) :
    Wp (G_ptov [.d (LD vs rs), .d (RN rs K)] S) (fun v S' => v = .d (RN rs (tov (endsOf vs rs) K)) ∧ ∃ X, S' = S ++ X) nox := by
  have hp := L.pos
  have eE := ends_len (vs := vs) (rs := rs)
  have hEk := land_EOk L
  have hK : K.Nodup := asc.imp fun h => Nat.ne_of_lt h
  have Gk := grd_ok hEk ac hK (fun k hk => by rw [eE]; exact hlt k hk)
  have glen : ∀ j, j ≤ rs.length → (grd (endsOf vs rs) K j).length ≤ rs.length := fun j hj => by
    have G := Gk j (by omega)
    have := nodup_le _ (List.range rs.length) G.nd fun a ha => List.mem_range.mpr (by have := G.lt a ha; omega)
    simpa using this
  have wR : inW ((rs.length : Int) - 1) = true := inW_iff.mpr ⟨by omega, by omega⟩
  have hn : ((rs.length : Int) - 1 - -1).toNat = rs.length := by omega
  simp [-e_seq, G_ptov, f_tree_over, startR, pairs_run L, rnum_run L nd hR asc hlt, eE, wR, inW_m1, hn]
  refine wps_for (fun q ρ S' => ∃ o5 o6 o7 X, S' = S ++ [.lst (evs (NI (grd (endsOf vs rs) K q)))] ++ X ∧ ρ = [some (.d (LD vs rs)), some (.d (RN rs K)), some (.d (.int (vs.length : Int))), some (.d (.list ((endsOf vs rs).map ED))), some (.own S.length), o5, o6, o7, none]) ⟨none, none, none, [], by simp [grd], rfl⟩ ?_ ?_
  · rintro q it hq ρ S' ⟨o5, o6, o7, X, rfl, rfl⟩
    obtain ⟨hqR, rfl⟩ := dn_get hq
    obtain ⟨r, hr⟩ : ∃ r, r = rs.length - 1 - q := ⟨_, rfl⟩
    have hrE : r < (endsOf vs rs).length := by omega
    have G := Gk q (by omega)
    have gl := glen q (by omega)
    obtain ⟨M, hM⟩ : ∃ M, M = grd (endsOf vs rs) K q := ⟨_, rfl⟩
    have hstep : grd (endsOf vs rs) K (q + 1) = if conB (Fk (endsOf vs rs) M) (e1 (endsOf vs rs) r) (e2 (endsOf vs rs) r) = true then M else M ++ [r] := by
      rw [hM, hr, ← eE]; rfl
    rw [← hM] at G gl ⊢
    rw [← hr]
    have q1 : (S ++ [SO.lst (evs (NI M))] ++ X)[S.length]? = some (.lst (evs (NI M))) := mid_get
    have hr1 := EG_at hrE
    obtain ⟨h1, h2⟩ := hEk r hrE
    obtain ⟨a, ha⟩ : ∃ a, a = e1 (endsOf vs rs) r := ⟨_, rfl⟩
    obtain ⟨b, hb⟩ : ∃ b, b = e2 (endsOf vs rs) r := ⟨_, rfl⟩
    have hED : ED ((endsOf vs rs).getD r (0, 0)) = .tuple [.int (a : Nat), .int (b : Nat)] := by rw [ha, hb]; rfl
    rw [hED] at hr1
    refine ⟨_, rfl, ?_⟩
    generalize hS1 : S ++ [SO.lst (evs (NI M))] ++ X = S1 at q1
    simp only [wps_seq]
    simp [-e_seq, -List.getD_eq_getElem?_getD, itI, hr1, in_NIo q1]
    by_cases cM : r ∈ M
    · simp [-e_seq, cM]
      refine ⟨X, ?_⟩
      rw [← hS1, hstep, if_pos (conB_iff.mpr (con_mem cM))]
      simp
    · simp [-e_seq, cM, fixG_own q1]
      refine wp_lcGM (chk_own q1) (cs := M) (fun k : Nat => itI (k : Int)) (fun k => ED ((endsOf vs rs).getD k (0, 0))) (by rw [one_NI]) (fun k hk => ⟨_, rfl, ?_⟩) ?_
      · have := EG_at (E := endsOf vs rs) (k := k) (G.lt k hk)
        simp [-List.getD_eq_getElem?_getD, itI, this]
      · rw [Fk_ED]
        have z1 : (Fk (endsOf vs rs) M).length ≤ sizeLine := by rw [Fk_len]; exact small (by omega)
        have eA : PyData.list [.int (a : Int)] = .list (NI [a]) := rfl
        simp [-e_seq, z1, eA]
        refine (wp_reached (F := Fk (endsOf vs rs) M) (N := vs.length) (A := [a]) (Fk_ne L fun j hj => by have := G.lt j hj; omega) (by rw [Fk_len]; omega) (by omega) (by simp) (by simp; omega)).imp ?_
        rintro v S2 ⟨M2, rfl, ⟨Y, rfl⟩, ndM, ltM, hM2⟩
        have hMB : decide (b ∈ M2) = conB (Fk (endsOf vs rs) M) a b := by
          cases q : conB (Fk (endsOf vs rs) M) a b with
          | true => rw [decide_eq_true_eq, hM2, urc_con]; exact conB_iff.mp q
          | false => rw [decide_eq_false_iff_not, hM2, urc_con]; exact conB_false.mp q
        rw [ha, hb] at hMB
        have q2 : (S1 ++ Y)[S.length]? = some (.lst (evs (NI M))) := by rw [List.getElem?_append_left (List.getElem?_eq_some_iff.mp q1).1]; exact q1
        have z2 : (evs (NI M)).length < sizeLine := small' (by rw [evs_len, NI_len]; omega)
        by_cases cb : b ∈ M2
        · simp [-e_seq, cb]
          refine ⟨X ++ Y, ?_⟩
          rw [← ha, ← hb, decide_eq_true cb] at hMB
          rw [← hS1, hstep, ← ha, ← hb, if_pos hMB.symm]
          simp
        · simp [-e_seq, cb, kind_own q2, app_own q2 z2]
          refine ⟨X ++ Y, ?_⟩
          rw [← ha, ← hb, decide_eq_false cb] at hMB
          rw [← hS1, hstep, ← ha, ← hb, if_neg (by rw [← hMB]; simp), snoc_NI, List.append_assoc _ X Y, mid_set]
          simp
  · rintro ρ S' ⟨o5, o6, o7, X, rfl, rfl⟩
    rw [dn_len]
    have G := Gk rs.length (by omega)
    have gl := glen rs.length (by omega)
    have G' : Grd (endsOf vs rs) vs.length K (endsOf vs rs).length (grd (endsOf vs rs) K (endsOf vs rs).length) := by rw [eE]; exact G
    have q1 : (S ++ [SO.lst (evs (NI (grd (endsOf vs rs) K rs.length)))] ++ X)[S.length]? = some (.lst (evs (II ((grd (endsOf vs rs) K rs.length).map fun k : Nat => (k : Int))))) := by rw [← NI_II]; exact mid_get
    have hs := sorted_own q1 (by rw [List.length_map]; omega)
    have e3 := sort_tov G'
    rw [eE] at e3
    rw [e3, ← NI_II] at hs
    have htl : (tov (endsOf vs rs) K).length ≤ rs.length := by
      have := (tov_perm G').length_eq
      rw [eE] at this
      omega
    generalize hS1 : S ++ [SO.lst (evs (NI (grd (endsOf vs rs) K rs.length)))] ++ X = S1 at q1 hs ⊢
    simp [-e_seq, hs]
    refine wp_collM (cs := tov (endsOf vs rs) K) (fun k : Nat => itI (k : Int)) (fun k => .str (rnm rs k)) (one_NI _) (fun k hk => ⟨_, rfl, ?_⟩) ?_
    · have hk : k < rs.length := by have := G'.lt k ((tov_mem G').mp hk); omega
      have : rnm rs k = rs[k].1 := by simp [rnm, hk]
      simp [itI, rs_at hk, RD, rd0 (i := 0), this]
    · simp [small (show (tov (endsOf vs rs) K).length ≤ 10000 by omega), RN]
      exact ⟨_, by rw [← hS1, List.append_assoc]⟩
end
end Z
set_option maxRecDepth 100000
set_option maxHeartbeats 4000000
/-! the law -/
namespace Z
open PySem PySem.Spec PyProof.Rows L2
noncomputable def G_same : Nat → GFn
  | 0 => fun _ _ => .bad
  | k + 1 => runF n__law_same (f__law_same (G_same k))
noncomputable def G_law (w : World) : GFn := runF n_law (f_law w G_trees G_bag G_draw G_free G_land G_last G_lnam (G_same 2) G_ltov G_two G_inlev G_ptov)
theorem same_run : ∀ (k : Nat) (d : PyData) (S : Store), Sm k d → G_same k [.d d, .d d] S = .ok (.d (.bool true)) S
  | _, _, S, .int k i => by
    simp [G_same, runF, f__law_same, startR, is_int, kit1, kit2]
  | _, _, S, .str k x h => by
    simp [G_same, runF, f__law_same, startR, is_str, kit3, kit4, kit5, eq_str h h]
  | _, _, S, .tup k ds hl h => by
    have L := forL_run (S := S) (ρ := [some (.d (.tuple ds)), some (.d (.tuple ds)), none]) (its := rngL 0 ds.length) (g := nameG 2)
      (sf := (ifSF (notB (truF (callG 2 (G_same k) (consF (ixF (varF 0) (varF 2)) (consF (ixF (varF 1) (varF 2)) nilF))))) (retF (kF (.bool false))) nxF))
      (fun q ρ S' => ∃ u : Option EV, ρ = [some (.d (.tuple ds)), some (.d (.tuple ds)), u] ∧ S' = S) ⟨none, rfl, rfl⟩ (by
        rintro q it hq ρ S' ⟨u, rfl, rfl⟩
        have hql : q < ds.length := by
          have := (List.getElem?_eq_some_iff.mp hq).1
          simpa using this
        rw [rng_get hql] at hq
        cases hq
        have e0 : (0 : Int) + (q : Int) = (q : Int) := by omega
        have ea : atI ds (q : Int) = some ds[q] := by rw [atI_nat]; simp [hql]
        have ih := same_run k ds[q] S' (h _ (List.getElem_mem _))
        refine ⟨_, [some (.d (.tuple ds)), some (.d (.tuple ds)), some (.d (.int (q : Int)))], S', rfl, .inl ?_, _, rfl, rfl⟩
        rw [e0]
        simp [ea, ih])
    obtain ⟨ρ', S', e, u, rfl, rfl⟩ := L
    have hw : inW (ds.length : Int) = true := inW_nat hl
    simp [G_same, runF, f__law_same, startR, is_tup, kit6, kit7, kit8, kit9, hw, e]
section
variable {S : Store} {n p N : Nat} {vs : List Str} {rs : List (Str × Str × Str)} {E F : List (Nat × Nat)} {K T L : List Nat} {w : World}
def keyR (rs : List (Str × Str × Str)) (T : List Nat) : List Key := T.map fun k => .inr (rnm rs k)
theorem RN_key : RN rs T = .tuple ((keyR rs T).map keyD) := by simp [RN, keyR, keyD]
theorem keyR_inj (nd : (rs.map (·.1)).Nodup) : ∀ {T L : List Nat}, (∀ k ∈ T, k < rs.length) → (∀ k ∈ L, k < rs.length) → keyR rs T = keyR rs L → T = L
  | [], [], _, _, _ => rfl
  | [], _ :: _, _, _, h => by simp [keyR] at h
  | _ :: _, [], _, _, h => by simp [keyR] at h
  | a :: T, b :: L, h1, h2, h => by
    have h' : (.inr (rnm rs a) : Key) :: keyR rs T = .inr (rnm rs b) :: keyR rs L := h
    injection h' with h3 h4
    injection h3 with h3
    rw [rnm_inj nd (h1 a (by simp)) (h2 b (by simp)) h3, keyR_inj nd (fun k hk => h1 k (by simp [hk])) (fun k hk => h2 k (by simp [hk])) h4]
theorem sm_RN (L : LandOk vs rs) (hT : ∀ k ∈ T, k < rs.length) (hl : T.length ≤ 10000) : Sm 2 (RN rs T) := .tup 1 _ (by simpa using hl) fun d hd => by
  obtain ⟨k, hk, rfl⟩ := List.mem_map.mp hd
  exact .str 0 _ (rnm_ok L (hT k hk))
def LawI (ns : List Int) (n p : Nat) (k : Nat) (ρ : Rho) (S : Store) : Prop :=
  ∃ o2 o3 o4 o5 o6 o7 o8 o9 : Option EV, ρ = [some (.scr (ns.map .int)), some (.own n), o2, o3, o4, o5, o6, o7, o8, o9] ∧ Bg n p S
theorem wp_trun (L : LandOk vs rs) : True := trivial
def FreI (w : World) (ns : List Int) (n p D : Nat) (vs : List Str) (rs : List (Str × Str × Str)) (o2 : Option EV) (q : Nat) (ρ : Rho) (S : Store) : Prop :=
  ∃ (kvs : List (List Key × EV)) (o5 o6 o7 o8 o9 : Option EV), ρ = [some (.scr (ns.map .int)), some (.own n), o2, some (.d (LD vs rs)), some (.own D), o5, o6, o7, o8, o9] ∧ Bg n p S ∧ D ≠ n ∧ D ≠ p ∧ S[D]? = some (.dtp w kvs) ∧ kvs.length ≤ q ∧
    ∀ T : List Nat, (∀ k ∈ T, k < rs.length) → (tlook kvs (keyR rs T)).getD (.d (.int 0)) = .d (.int (((((allL rs.length).filter (frB (endsOf vs rs) vs.length)).take q).countP (fun F => decide (tov (endsOf vs rs) F = T)) : Nat) : Int))
theorem free_step (L : LandOk vs rs) (nd : (rs.map (·.1)).Nodup) (hR : rs.length ≤ 8) (hv : vs.length ≤ 10) {ns : List Int} {D q : Nat} {o2 : Option EV} {A : List Nat} (hA : ((allL rs.length).filter (frB (endsOf vs rs) vs.length))[q]? = some A) (hq : q ≤ 1000) {ρ : Rho}
    (h : FreI w ns n p D vs rs o2 q ρ S) {b c : Rho → Store → Prop} {z : Exn → Rho → Store → Prop} {ret : EV → Store → Prop} :
    WpS ((seqF (setF 6 (callG 2 G_ltov (consF (varF 3) (consF (varF 5) nilF))))
    (seqF (setF 7 (callG 2 G_lnam (consF (varF 3) (consF (varF 6) nilF))))
    (seqF (setTF w (varF 4) (varF 7) (opF gAdd (get2F w (varF 4) (varF 7) (kF (.int 0))) (kF (.int 1))))
    (seqF (ifSF (testF (opF (gC fun i j => decide (j < i)) (callF gLen (consF (lcF mkLst (seqIF (varF 6)) (nameG 9) (andB (testF (opF (gIn true) (varF 9) (varF 5))) (testF (opF (gIn true) (varF 9) (callG 2 G_last (consF (varF 3) (consF (varF 6) nilF)))))) (varF 9) [9]) nilF)) (kF (.int 0)))) (retF (kF (.bool false))) nxF)
    (ifSF (andB (testF (opF (gEq false) (callG 2 G_draw (consF (varF 1) (consF (kF (.int 3)) nilF))) (kF (.int 0)))) (notB (truF (callG 2 (G_same 2) (consF (callG 2 G_ptov (consF (varF 3) (consF (callG 2 G_lnam (consF (varF 3) (consF (varF 5) nilF))) nilF))) (consF (varF 7) nilF)))))) (retF (kF (.bool false))) nxF))))) (ρ.set 5 (some (.d (LL A)))) S)
      ⟨FreI w ns n p D vs rs o2 (q + 1), ret, b, c, z⟩ := by
  have eE := ends_len (vs := vs) (rs := rs)
  have hEk := land_EOk L
  obtain ⟨kvs, o5, o6, o7, o8, o9, rfl, st, hn, hpn, qD, hkl, hcnt⟩ := h
  have hAm := List.mem_of_getElem? hA
  obtain ⟨hA1, hA2⟩ := List.mem_filter.mp hAm
  have ac := frB_iff.mp hA2
  obtain ⟨asc, hlt⟩ := allL_ok _ A hA1
  have hAl := allL_lenL _ A hA1
  have hAn : A.Nodup := asc.imp fun h => Nat.ne_of_lt h
  have G := grd_ok hEk ac hAn (fun k hk => by rw [eE]; exact hlt k hk) (endsOf vs rs).length (Nat.le_refl _)
  obtain ⟨T, hT⟩ : ∃ T, T = tov (endsOf vs rs) A := ⟨_, rfl⟩
  have hTlt : ∀ k ∈ T, k < rs.length := fun k hk => by
    rw [hT, tov_mem G] at hk
    have := G.lt k hk; omega
  have hTn : T.Nodup := by rw [hT]; exact ordT_nd
  have hTl : T.length ≤ rs.length := by
    have := nodup_le T (List.range rs.length) hTn fun a ha => List.mem_range.mpr (hTlt a ha)
    simpa using this
  have htk : ((allL rs.length).filter (frB (endsOf vs rs) vs.length)).take (q + 1) = ((allL rs.length).filter (frB (endsOf vs rs) vs.length)).take q ++ [A] := by rw [List.take_add_one, hA]; rfl
  have l1 := ltov_run L (by omega) hv hAn hlt ac S
  rw [← hT] at l1
  obtain ⟨S1, hS1⟩ : ∃ S1, S1 = S ++ [SO.lst (evs (NI (grd (endsOf vs rs) A rs.length)))] := ⟨_, rfl⟩
  rw [← hS1] at l1
  have st1 : Bg n p S1 := by rw [hS1]; exact st.app
  have q1 : S1[D]? = some (.dtp w kvs) := by rw [hS1, List.getElem?_append_left (List.getElem?_eq_some_iff.mp qD).1]; exact qD
  have l2 := named_run (vs := vs) (rs := rs) (L := T) hTlt (by omega) S1
  obtain ⟨cnt, hc⟩ : ∃ cnt, cnt = (((allL rs.length).filter (frB (endsOf vs rs) vs.length)).take q).countP (fun F => decide (tov (endsOf vs rs) F = T)) := ⟨_, rfl⟩
  have hcT := hcnt T hTlt
  rw [← hc] at hcT
  have hget := get2_own (w0 := w) (fo := varF 4) (f1 := varF 7) (f2 := kF (.int 0)) (ρ := [some (.scr (ns.map .int)), some (.own n), o2, some (.d (LD vs rs)), some (.own D), some (.d (LL A)), some (.d (LL T)), some (.d (RN rs T)), o8, o9]) (k := keyR rs T) (z := .d (.int 0)) q1 rfl (by rw [← RN_key]; rfl) rfl
  rw [hcT] at hget
  have hput := putT_own (y := .d (.int ((cnt : Int) + 1))) (k := keyR rs T) q1 (small' (by omega))
  rw [← RN_key] at hput
  obtain ⟨kv2, hkv2⟩ : ∃ kv2, kv2 = tput kvs (keyR rs T) (.d (.int ((cnt : Int) + 1))) := ⟨_, rfl⟩
  rw [← hkv2] at hput
  obtain ⟨S2, hS2⟩ : ∃ S2, S2 = S1.set D (.dtp w kv2) := ⟨_, rfl⟩
  rw [← hS2] at hput
  have st2 : Bg n p S2 := by rw [hS2]; exact st1.other hn hpn
  have q2 : S2[D]? = some (.dtp w kv2) := by rw [hS2]; exact set_get (List.getElem?_eq_some_iff.mp q1).1
  simp [-e_seq, l1, l2, hget, hput]
  refine wp_lc (fun q acc S' => acc = [] ∧ ∃ X, S' = S2 ++ X) ⟨rfl, [], by simp⟩ (fun j it hj acc S' hI => ?_) ?_
  · obtain ⟨rfl, X, rfl⟩ := hI
    rw [one_NI, List.getElem?_map] at hj
    cases hj2 : T[j]? with
    | none => rw [hj2] at hj; cases hj
    | some k =>
      rw [hj2] at hj
      cases hj
      have hkT := List.mem_of_getElem? hj2
      refine ⟨_, rfl, ?_⟩
      by_cases cA : k ∈ A
      · simp [-e_seq, itI, cA]
      · have hlast : k ∈ T.filter (lastB (endsOf vs rs) T (cutR (endsOf vs rs) T)) := by
          rw [List.mem_filter]
          refine ⟨hkT, lastB_iff.mpr ?_⟩
          rw [hT]
          exact tov_last hEk ac hAn (fun k hk => by rw [eE]; exact hlt k hk) (by rw [← hT]; exact hkT) cA
        have l3 := last_run L (by omega) hv hTn hTlt (by omega) (fun k hk => by
          rw [hT] at hk ⊢
          exact tov_self hEk ac hAn (fun k hk => by rw [eE]; exact hlt k hk) hk) (S2 ++ X)
        simp [-e_seq, -List.mem_filter, itI, cA, l3, hlast]
  · rintro ys S' ⟨rfl, X, rfl⟩
    have st3 : Bg n p (S2 ++ X) := st2.app
    have q3 : (S2 ++ X)[D]? = some (.dtp w kv2) := by rw [List.getElem?_append_left (List.getElem?_eq_some_iff.mp q2).1]; exact q2
    generalize S2 ++ X = S3 at st3 q3
    simp [-e_seq]
    refine (wp_draw st3 (m := 3) (by omega) (by omega)).imp ?_
    rintro v S4 ⟨dr, rfl, hdr, fr⟩
    have q4 : S4[D]? = some (.dtp w kv2) := fr.keep hn hpn q3
    have fin : ∀ S5 o6 o7 o8 o9, Bg n p S5 → S5[D]? = some (.dtp w kv2) → FreI w ns n p D vs rs o2 (q + 1) [some (.scr (ns.map .int)), some (.own n), o2, some (.d (LD vs rs)), some (.own D), some (.d (LL A)), o6, o7, o8, o9] S5 := by
      intro S5 o6 o7 o8 o9 st5 q5
      refine ⟨kv2, _, _, _, _, _, rfl, st5, hn, hpn, q5, ?_, fun T' hT' => ?_⟩
      · rw [hkv2]
        have := tput_len kvs (keyR rs T) (.d (.int ((cnt : Int) + 1)))
        omega
      · rw [hkv2, tlook_put, htk, List.countP_append]
        by_cases cT : T = T'
        · subst cT
          rw [if_pos rfl, ← hc]
          simp [← hT]
        · rw [if_neg fun z => cT (keyR_inj nd hTlt hT' z), hcnt T' hT']
          simp [← hT, cT]
    by_cases d0 : dr = 0
    · simp [-e_seq, d0, named_run (vs := vs) hlt (show A.length ≤ 10000 by omega)]
      refine (ptov_run L nd (by omega) hv asc hlt ac S4).imp ?_
      rintro v S5 ⟨rfl, Y, rfl⟩
      rw [← hT]
      have hs := same_run 2 (RN rs T) (S4 ++ Y) (sm_RN L hTlt (by omega))
      have q5 : (S4 ++ Y)[D]? = some (.dtp w kv2) := by rw [List.getElem?_append_left (List.getElem?_eq_some_iff.mp q4).1]; exact q4
      simp [-e_seq, hs]
      exact fin _ _ _ _ _ fr.st.app q5
    · have d1 : ¬ (dr : Int) = 0 := by omega
      simp [-e_seq, d0, d1]
      exact fin _ _ _ _ _ fr.st q4
end
end Z
set_option maxRecDepth 100000
set_option maxHeartbeats 4000000
/-! the law, in all -/
namespace Z
open PySem PySem.Spec PyProof.Rows L2
section
variable {S : Store} {n p N : Nat} {vs : List Str} {rs : List (Str × Str × Str)} {E F : List (Nat × Nat)} {K T L : List Nat} {w : World}
theorem two_le (m : Nat) (hm : m ≤ 10) : 2 ^ m ≤ 1024 := by
  have := Nat.pow_le_pow_right (show 0 < 2 by omega) hm
  omega
def TreI (w : World) (ns : List Int) (n p D : Nat) (vs : List Str) (rs : List (Str × Str × Str)) (kvs : List (List Key × EV)) (o2 : Option EV) (ρ : Rho) (S : Store) : Prop :=
  ∃ (o5 o6 o7 o8 o9 : Option EV), ρ = [some (.scr (ns.map .int)), some (.own n), o2, some (.d (LD vs rs)), some (.own D), o5, o6, o7, o8, o9] ∧ Bg n p S ∧ S[D]? = some (.dtp w kvs)
theorem law_wp (w : World) (ns : List Int) (hl : ns.length ≤ 63) : Wp (G_law w [.scr (ns.map .int)] []) (fun v _ => v = .d (.bool true)) nox := by
  have w2 : inW 2 = true := inW_nat (m := 2) (by omega)
  simp [-e_seq, G_law, f_law, startR]
  refine (wp_bag ns hl).imp ?_
  rintro v S1 ⟨n, p, rfl, st1⟩
  simp [-e_seq, w2]
  refine wps_forR (LawI ns n p) ⟨_, _, _, _, _, _, _, _, rfl, st1⟩ ?_ ?_
  · rintro k hk ρ S2 ⟨o2, o3, o4, o5, o6, o7, o8, o9, rfl, st2⟩
    refine ⟨_, rfl, ?_⟩
    rw [show (0 : Int) + (k : Int) = (k : Int) by omega]
    simp [-e_seq]
    refine (wp_draw st2 (m := 2) (by omega) (by omega)).imp ?_
    rintro v S3 ⟨how, rfl, hhow, fr3⟩
    simp [-e_seq]
    refine Wp.imp (Q := fun v S' => ∃ vs rs, v = .d (LD vs rs) ∧ LandOk vs rs ∧ (rs.map (·.1)).Nodup ∧ rs.length ≤ 8 ∧ vs.length ≤ 10 ∧ Bg n p S') (X := nox) ?_ ?_
    · by_cases h0 : how = 0
      · simp [-e_seq, h0]
        refine (wp_land fr3.st (most := 6) (more := 3) (by omega) (by omega) (by omega)).imp ?_
        rintro v S4 ⟨vs, rs, rfl, L, hc, nd, hv1, hv5, hr, fr4⟩
        exact ⟨vs, rs, rfl, L, nd, by omega, by omega, fr4.st⟩
      · have h0' : ¬ (how : Int) = 0 := by omega
        simp [-e_seq, h0]
        refine (wp_land fr3.st (most := 4) (more := 5) (by omega) (by omega) (by omega)).imp ?_
        rintro v S4 ⟨vs, rs, rfl, L, hc, nd, hv1, hv5, hr, fr4⟩
        exact ⟨vs, rs, rfl, L, nd, by omega, by omega, fr4.st⟩
    · rintro v S4 ⟨vs, rs, rfl, L, nd, hR, hv, st4⟩
      have eE := ends_len (vs := vs) (rs := rs)
      have hEk := land_EOk L
      have hlt4 := st4.lt
      simp [-e_seq, free_run L (show rs.length ≤ 10 by omega) hv]
      have hfl : ((allL rs.length).filter (frB (endsOf vs rs) vs.length)).length ≤ 1000 := by
        have h1 := List.length_filter_le (frB (endsOf vs rs) vs.length) (allL rs.length)
        have h2 := allL_len rs.length
        have h3 := Nat.pow_le_pow_right (show 0 < 2 by omega) hR
        omega
      refine wps_forD (FreI w ns n p S4.length vs rs (some (.d (.int (k : Int))))) ⟨[], o5, o6, o7, o8, o9, rfl, st4.app, by omega, by omega, by simp, Nat.zero_le _, fun T hT => by simp [tlook]⟩ ?_ ?_
      · rintro q d hd ρ S5 hI
        rw [List.getElem?_map] at hd
        cases hq : ((allL rs.length).filter (frB (endsOf vs rs) vs.length))[q]? with
        | none => rw [hq] at hd; cases hd
        | some A =>
          rw [hq] at hd
          cases hd
          refine ⟨_, rfl, ?_⟩
          exact free_step L nd hR hv hq (by have := (List.getElem?_eq_some_iff.mp hq).1; omega) hI
      · rintro ρ S5 ⟨kvs, p5, p6, p7, p8, p9, rfl, st5, hn, hpn, qD, hkl, hcnt⟩
        rw [List.length_map, List.take_length] at hcnt
        have hR10 : rs.length ≤ 10 := by omega
        simp [-e_seq, trees_run L hR10 hv]
        have qD1 : (S5 ++ [SO.gone])[S4.length]? = some (.dtp w kvs) := by rw [List.getElem?_append_left (List.getElem?_eq_some_iff.mp qD).1]; exact qD
        refine wps_forD (fun _ => TreI w ns n p S4.length vs rs kvs (some (.d (.int (k : Int))))) ⟨p5, p6, p7, p8, p9, rfl, st5.app, qD1⟩ ?_ ?_
        · rintro q d hd ρ S6 ⟨q5, q6, q7, q8, q9, rfl, st6, qD6⟩
          rw [List.getElem?_map] at hd
          cases hq : ((chos (vs.length - 1) rs.length).filter (trB (endsOf vs rs) vs.length))[q]? with
          | none => rw [hq] at hd; cases hd
          | some T =>
            rw [hq] at hd
            cases hd
            obtain ⟨t, asc, hTl⟩ := trees_ok L (List.mem_of_getElem? hq)
            have hTlt : ∀ k ∈ T, k < rs.length := fun k hk => by have := t.lt k hk; omega
            refine ⟨_, rfl, ?_⟩
            have l3 := last_run L hR10 hv t.nd hTlt (by omega) (fun k hk => t.self hEk hk) S6
            obtain ⟨m, hm⟩ : ∃ m, m = (T.filter (lastB (endsOf vs rs) T (cutR (endsOf vs rs) T))).length := ⟨_, rfl⟩
            have hml : m ≤ 10 := by
              have := List.length_filter_le (lastB (endsOf vs rs) T (cutR (endsOf vs rs) T)) T
              omega
            have hcT := hcnt T hTlt
            have hfr : ∀ F ∈ allL (endsOf vs rs).length, frB (endsOf vs rs) vs.length F = true ↔ Ac (endsOf vs rs) vs.length F := fun F _ => frB_iff
            have hcount := tov_count hEk t asc (frB (endsOf vs rs) vs.length) hfr
            rw [eE, ← hm] at hcount
            rw [hcount] at hcT
            obtain ⟨S7, hS7⟩ : ∃ S7, S7 = S6 ++ [SO.gone, SO.gone] := ⟨_, rfl⟩
            rw [← hS7] at l3
            have st7 : Bg n p S7 := by rw [hS7]; exact st6.app
            have qD7 : S7[S4.length]? = some (.dtp w kvs) := by rw [hS7, List.getElem?_append_left (List.getElem?_eq_some_iff.mp qD6).1]; exact qD6
            have hget := get2_own (w0 := w) (fo := varF 4) (f1 := varF 7) (f2 := kF (.int 0)) (ρ := [some (.scr (ns.map .int)), some (.own n), some (.d (.int (k : Int))), some (.d (LD vs rs)), some (.own S4.length), q5, some (.d (LL T)), some (.d (RN rs T)), some (.d (.int (m : Int))), q9]) (k := keyR rs T) (z := .d (.int 0)) qD7 rfl (by rw [← RN_key]; rfl) rfl
            rw [hcT] at hget
            have h2 := two_run (m := m) (by omega) S7
            simp [-e_seq, -Int.natCast_pow, named_run (vs := vs) hTlt (show T.length ≤ 10000 by omega), l3, ← hm, hget, h2]
            refine (inlev_run L nd hR10 hv t asc (by omega) S7).imp ?_
            rintro v S8 ⟨rfl, X, rfl⟩
            have hs := same_run 2 (.int (m : Int)) (S7 ++ X) (.int 1 _)
            rw [← hm]
            simp [-e_seq, hs]
            exact ⟨_, _, _, _, _, rfl, st7.app, by rw [List.getElem?_append_left (List.getElem?_eq_some_iff.mp qD7).1]; exact qD7⟩
        · rintro ρ S6 ⟨q5, q6, q7, q8, q9, rfl, st6, qD6⟩
          have hT0 : PyData.tuple [] = RN rs [] := rfl
          have hL0 : PyData.list [] = LL [] := rfl
          have ac0 : Ac (endsOf vs rs) vs.length [] := Ac.nil
          simp [-e_seq, perm_cons, hT0]
          refine (ptov_run L nd hR10 hv (K := []) .nil (by simp) ac0 S6).imp ?_
          rintro v S7 ⟨rfl, X, rfl⟩
          have G := grd_ok hEk ac0 List.nodup_nil (by intro k hk; cases hk) (endsOf vs rs).length (Nat.le_refl _)
          have hTlt : ∀ k ∈ tov (endsOf vs rs) [], k < rs.length := fun k hk => by
            rw [tov_mem G] at hk
            have := G.lt k hk; omega
          have hTl : (tov (endsOf vs rs) []).length ≤ rs.length := by
            have := nodup_le (tov (endsOf vs rs) []) (List.range rs.length) ordT_nd fun a ha => List.mem_range.mpr (hTlt a ha)
            simpa using this
          have l1 := ltov_run L hR10 hv (K := []) List.nodup_nil (by simp) ac0 (S6 ++ X)
          have hs := fun S => same_run 2 (RN rs (tov (endsOf vs rs) [])) S (sm_RN L hTlt (by omega))
          simp [-e_seq, hL0, l1, named_run (vs := vs) hTlt (show (tov (endsOf vs rs) []).length ≤ 10000 by omega), hs]
          exact ⟨_, _, _, _, _, _, _, _, rfl, st6.app⟩
  · rintro ρ S2 ⟨o2, o3, o4, o5, o6, o7, o8, o9, rfl, st2⟩
    simp
theorem law_run (w : World) (ns : List Int) (hl : ns.length ≤ 63) : ∃ S', G_law w [.scr (ns.map .int)] [] = .ok (.d (.bool true)) S' := by
  obtain ⟨v, S', e, rfl⟩ := (law_wp w ns hl).ex
  exact ⟨S', e⟩
end
end Z
set_option maxRecDepth 100000
set_option maxHeartbeats 4000000
namespace Z
open PySem PySem.Spec PyProof.Rows L2
/-! printed by gen.py: the defs joined -/
section
variable {l : PySem.W.OpenLaw} {w : World} {K : PySem.W.Frag} {h : Heap} {mg : Str → Option Value} {fa : Addr}
theorem all_z (B : BZ mg) (hfa : mg "law" = some (.ref fa))
    (D_pairs_of : DefAt K mg "pairs_of" s_pairs_of)
    (D_reached : DefAt K mg "reached" s_reached)
    (D_road_numbers : DefAt K mg "road_numbers" s_road_numbers)
    (D_cut_roads : DefAt K mg "cut_roads" s_cut_roads)
    (D_inner_of : DefT K mg h "inner_of" s_inner_of)
    (D_inner_level : DefAt K mg "inner_level" s_inner_level)
    (D_tree_over : DefT K mg h "tree_over" s_tree_over)
    (D__law_bag : DefAt K mg "_law_bag" s__law_bag)
    (D__law_draw : DefAt K mg "_law_draw" s__law_draw)
    (D__law_pick : DefAt K mg "_law_pick" s__law_pick)
    (D__law_some : DefAt K mg "_law_some" s__law_some)
    (D__law_same : DefAt K mg "_law_same" s__law_same)
    (D__law_names : DefAt K mg "_law_names" s__law_names)
    (D__law_land : DefAt K mg "_law_land" s__law_land)
    (D__law_ends : DefAt K mg "_law_ends" s__law_ends)
    (D__law_labels : DefAt K mg "_law_labels" s__law_labels)
    (D__law_chosen : DefAt K mg "_law_chosen" s__law_chosen)
    (D__law_all_trees : DefAt K mg "_law_all_trees" s__law_all_trees)
    (D__law_sides : DefAt K mg "_law_sides" s__law_sides)
    (D__law_between : DefAt K mg "_law_between" s__law_between)
    (D__law_named : DefAt K mg "_law_named" s__law_named)
    (D__law_free_sets : DefAt K mg "_law_free_sets" s__law_free_sets)
    (D__law_tree_over : DefAt K mg "_law_tree_over" s__law_tree_over)
    (D__law_last_ones : DefAt K mg "_law_last_ones" s__law_last_ones)
    (D__law_two_to : DefAt K mg "_law_two_to" s__law_two_to)
    (D_law : DefAt K mg "law" s_law)
    : LawZ l w K 11 63 "script" mg fa h := by
  obtain ⟨f_pairs_of, fd_pairs_of, c_pairs_of, F_pairs_of, m_pairs_of, k_pairs_of⟩ := D_pairs_of
  obtain ⟨f_reached, fd_reached, c_reached, F_reached, m_reached, k_reached⟩ := D_reached
  obtain ⟨f_road_numbers, fd_road_numbers, c_road_numbers, F_road_numbers, m_road_numbers, k_road_numbers⟩ := D_road_numbers
  obtain ⟨f_cut_roads, fd_cut_roads, c_cut_roads, F_cut_roads, m_cut_roads, k_cut_roads⟩ := D_cut_roads
  obtain ⟨f_inner_of, fd_inner_of, c_inner_of, t_inner_of, F_inner_of, m_inner_of, k_inner_of, x_inner_of, y_inner_of, z_inner_of⟩ := D_inner_of
  obtain ⟨f_inner_level, fd_inner_level, c_inner_level, F_inner_level, m_inner_level, k_inner_level⟩ := D_inner_level
  obtain ⟨f_tree_over, fd_tree_over, c_tree_over, t_tree_over, F_tree_over, m_tree_over, k_tree_over, x_tree_over, y_tree_over, z_tree_over⟩ := D_tree_over
  obtain ⟨f__law_bag, fd__law_bag, c__law_bag, F__law_bag, m__law_bag, k__law_bag⟩ := D__law_bag
  obtain ⟨f__law_draw, fd__law_draw, c__law_draw, F__law_draw, m__law_draw, k__law_draw⟩ := D__law_draw
  obtain ⟨f__law_pick, fd__law_pick, c__law_pick, F__law_pick, m__law_pick, k__law_pick⟩ := D__law_pick
  obtain ⟨f__law_some, fd__law_some, c__law_some, F__law_some, m__law_some, k__law_some⟩ := D__law_some
  obtain ⟨f__law_same, fd__law_same, c__law_same, F__law_same, m__law_same, k__law_same⟩ := D__law_same
  obtain ⟨f__law_names, fd__law_names, c__law_names, F__law_names, m__law_names, k__law_names⟩ := D__law_names
  obtain ⟨f__law_land, fd__law_land, c__law_land, F__law_land, m__law_land, k__law_land⟩ := D__law_land
  obtain ⟨f__law_ends, fd__law_ends, c__law_ends, F__law_ends, m__law_ends, k__law_ends⟩ := D__law_ends
  obtain ⟨f__law_labels, fd__law_labels, c__law_labels, F__law_labels, m__law_labels, k__law_labels⟩ := D__law_labels
  obtain ⟨f__law_chosen, fd__law_chosen, c__law_chosen, F__law_chosen, m__law_chosen, k__law_chosen⟩ := D__law_chosen
  obtain ⟨f__law_all_trees, fd__law_all_trees, c__law_all_trees, F__law_all_trees, m__law_all_trees, k__law_all_trees⟩ := D__law_all_trees
  obtain ⟨f__law_sides, fd__law_sides, c__law_sides, F__law_sides, m__law_sides, k__law_sides⟩ := D__law_sides
  obtain ⟨f__law_between, fd__law_between, c__law_between, F__law_between, m__law_between, k__law_between⟩ := D__law_between
  obtain ⟨f__law_named, fd__law_named, c__law_named, F__law_named, m__law_named, k__law_named⟩ := D__law_named
  obtain ⟨f__law_free_sets, fd__law_free_sets, c__law_free_sets, F__law_free_sets, m__law_free_sets, k__law_free_sets⟩ := D__law_free_sets
  obtain ⟨f__law_tree_over, fd__law_tree_over, c__law_tree_over, F__law_tree_over, m__law_tree_over, k__law_tree_over⟩ := D__law_tree_over
  obtain ⟨f__law_last_ones, fd__law_last_ones, c__law_last_ones, F__law_last_ones, m__law_last_ones, k__law_last_ones⟩ := D__law_last_ones
  obtain ⟨f__law_two_to, fd__law_two_to, c__law_two_to, F__law_two_to, m__law_two_to, k__law_two_to⟩ := D__law_two_to
  obtain ⟨f_law, fd_law, c_law, F_law, m_law, k_law⟩ := D_law
  have e := hfa.symm.trans m_law
  cases e
  refine ⟨fd_law, [(c_inner_of, t_inner_of), (c_tree_over, t_tree_over)], (G_law w), List.forall_mem_cons.mpr ⟨x_inner_of, List.forall_mem_cons.mpr ⟨x_tree_over, fun _ z => nomatch z⟩⟩, List.forall_mem_cons.mpr ⟨y_inner_of, List.forall_mem_cons.mpr ⟨y_tree_over, fun _ z => nomatch z⟩⟩, List.forall_mem_cons.mpr ⟨z_inner_of, List.forall_mem_cons.mpr ⟨z_tree_over, fun _ z => nomatch z⟩⟩, F_law.bindsTo fun _ _ _ _ _ _ _ => rfl, fun ns hl hb => law_run w ns hl, fun base X2 G2 hT => ?_⟩
  have T_ : List Addr := ([(c_inner_of, t_inner_of), (c_tree_over, t_tree_over)] : List (Addr × Addr)).map (·.2)
  have r_pairs_of : FnOk l.prog w K mg base (L2.CX l.prog w) 1 f_pairs_of fd_pairs_of p_pairs_of (spG K (([(c_inner_of, t_inner_of), (c_tree_over, t_tree_over)] : List (Addr × Addr)).map (·.2)) p_pairs_of.length G_pairs) := d_pairs_of (P := l.prog) (w := w) (K := K) (mg := mg) (base := base) (T := ([(c_inner_of, t_inner_of), (c_tree_over, t_tree_over)] : List (Addr × Addr)).map (·.2)) (k := 0) B F_pairs_of  
  have o_pairs_of : Callee l.prog w K mg base (([(c_inner_of, t_inner_of), (c_tree_over, t_tree_over)] : List (Addr × Addr)).map (·.2)) "pairs_of" 1 p_pairs_of G_pairs := ⟨f_pairs_of, fd_pairs_of, r_pairs_of, m_pairs_of, k_pairs_of, F_pairs_of.binds fun _ _ _ _ _ _ us hl => match us, hl with | [_], _ => rfl⟩
  have r_reached : FnOk l.prog w K mg base (L2.CX l.prog w) 1 f_reached fd_reached p_reached (spG K (([(c_inner_of, t_inner_of), (c_tree_over, t_tree_over)] : List (Addr × Addr)).map (·.2)) p_reached.length G_reached) := d_reached (P := l.prog) (w := w) (K := K) (mg := mg) (base := base) (T := ([(c_inner_of, t_inner_of), (c_tree_over, t_tree_over)] : List (Addr × Addr)).map (·.2)) (k := 0) B F_reached  
  have o_reached : Callee l.prog w K mg base (([(c_inner_of, t_inner_of), (c_tree_over, t_tree_over)] : List (Addr × Addr)).map (·.2)) "reached" 1 p_reached G_reached := ⟨f_reached, fd_reached, r_reached, m_reached, k_reached, F_reached.binds fun _ _ _ _ _ _ us hl => match us, hl with | [_, _, _], _ => rfl⟩
  have r_road_numbers : FnOk l.prog w K mg base (L2.CX l.prog w) 1 f_road_numbers fd_road_numbers p_road_numbers (spG K (([(c_inner_of, t_inner_of), (c_tree_over, t_tree_over)] : List (Addr × Addr)).map (·.2)) p_road_numbers.length G_rnum) := d_road_numbers (P := l.prog) (w := w) (K := K) (mg := mg) (base := base) (T := ([(c_inner_of, t_inner_of), (c_tree_over, t_tree_over)] : List (Addr × Addr)).map (·.2)) (k := 0) B F_road_numbers  
  have o_road_numbers : Callee l.prog w K mg base (([(c_inner_of, t_inner_of), (c_tree_over, t_tree_over)] : List (Addr × Addr)).map (·.2)) "road_numbers" 1 p_road_numbers G_rnum := ⟨f_road_numbers, fd_road_numbers, r_road_numbers, m_road_numbers, k_road_numbers, F_road_numbers.binds fun _ _ _ _ _ _ us hl => match us, hl with | [_, _], _ => rfl⟩
  have r_cut_roads : FnOk l.prog w K mg base (L2.CX l.prog w) 2 f_cut_roads fd_cut_roads p_cut_roads (spG K (([(c_inner_of, t_inner_of), (c_tree_over, t_tree_over)] : List (Addr × Addr)).map (·.2)) p_cut_roads.length G_cut) := d_cut_roads (P := l.prog) (w := w) (K := K) (mg := mg) (base := base) (T := ([(c_inner_of, t_inner_of), (c_tree_over, t_tree_over)] : List (Addr × Addr)).map (·.2)) (k := 1) B F_cut_roads (c_reached := o_reached) (hC_reached := by decide)
  have o_cut_roads : Callee l.prog w K mg base (([(c_inner_of, t_inner_of), (c_tree_over, t_tree_over)] : List (Addr × Addr)).map (·.2)) "cut_roads" 2 p_cut_roads G_cut := ⟨f_cut_roads, fd_cut_roads, r_cut_roads, m_cut_roads, k_cut_roads, F_cut_roads.binds fun _ _ _ _ _ _ us hl => match us, hl with | [_, _, _, _], _ => rfl⟩
  have r_inner_of : FnOk l.prog w K mg base (L2.CX l.prog w) 9 f_inner_of fd_inner_of p_inner_of (spG K (([(c_inner_of, t_inner_of), (c_tree_over, t_tree_over)] : List (Addr × Addr)).map (·.2)) p_inner_of.length G_inof) := d_inner_of (P := l.prog) (w := w) (K := K) (mg := mg) (base := base) (T := ([(c_inner_of, t_inner_of), (c_tree_over, t_tree_over)] : List (Addr × Addr)).map (·.2)) (k := 8) B F_inner_of (kg := 2) (hkg2 := by decide) (hkg6 := by decide) (hT := ⟨t_inner_of, List.mem_map.mpr ⟨(c_inner_of, t_inner_of), List.mem_cons_self, rfl⟩, hT (c_inner_of, t_inner_of) (List.mem_cons_self)⟩) (c_cut_roads := o_cut_roads) (hG_cut_roads := by decide)
  have o_inner_of : Callee l.prog w K mg base (([(c_inner_of, t_inner_of), (c_tree_over, t_tree_over)] : List (Addr × Addr)).map (·.2)) "inner_of" 9 p_inner_of G_inof := ⟨f_inner_of, fd_inner_of, r_inner_of, m_inner_of, k_inner_of, F_inner_of.binds fun _ _ _ _ _ _ us hl => match us, hl with | [_, _, _], _ => rfl⟩
  have r_inner_level : FnOk l.prog w K mg base (L2.CX l.prog w) 10 f_inner_level fd_inner_level p_inner_level (spG K (([(c_inner_of, t_inner_of), (c_tree_over, t_tree_over)] : List (Addr × Addr)).map (·.2)) p_inner_level.length G_inlev) := d_inner_level (P := l.prog) (w := w) (K := K) (mg := mg) (base := base) (T := ([(c_inner_of, t_inner_of), (c_tree_over, t_tree_over)] : List (Addr × Addr)).map (·.2)) (k := 9) B F_inner_level (c_inner_of := o_inner_of) (c_pairs_of := o_pairs_of) (c_road_numbers := o_road_numbers) (hC_inner_of := by decide) (hC_pairs_of := by decide) (hC_road_numbers := by decide)
  have o_inner_level : Callee l.prog w K mg base (([(c_inner_of, t_inner_of), (c_tree_over, t_tree_over)] : List (Addr × Addr)).map (·.2)) "inner_level" 10 p_inner_level G_inlev := ⟨f_inner_level, fd_inner_level, r_inner_level, m_inner_level, k_inner_level, F_inner_level.binds fun _ _ _ _ _ _ us hl => match us, hl with | [_, _], _ => rfl⟩
  have r_tree_over : FnOk l.prog w K mg base (L2.CX l.prog w) 7 f_tree_over fd_tree_over p_tree_over (spG K (([(c_inner_of, t_inner_of), (c_tree_over, t_tree_over)] : List (Addr × Addr)).map (·.2)) p_tree_over.length G_ptov) := d_tree_over (P := l.prog) (w := w) (K := K) (mg := mg) (base := base) (T := ([(c_inner_of, t_inner_of), (c_tree_over, t_tree_over)] : List (Addr × Addr)).map (·.2)) (k := 6) B F_tree_over (kg := 0) (hkg2 := by decide) (hkg6 := by decide) (hT := ⟨t_tree_over, List.mem_map.mpr ⟨(c_tree_over, t_tree_over), List.mem_cons_of_mem _ (List.mem_cons_self), rfl⟩, hT (c_tree_over, t_tree_over) (List.mem_cons_of_mem _ (List.mem_cons_self))⟩) (c_pairs_of := o_pairs_of) (c_reached := o_reached) (c_road_numbers := o_road_numbers) (hC_pairs_of := by decide) (hC_reached := by decide) (hC_road_numbers := by decide)
  have o_tree_over : Callee l.prog w K mg base (([(c_inner_of, t_inner_of), (c_tree_over, t_tree_over)] : List (Addr × Addr)).map (·.2)) "tree_over" 7 p_tree_over G_ptov := ⟨f_tree_over, fd_tree_over, r_tree_over, m_tree_over, k_tree_over, F_tree_over.binds fun _ _ _ _ _ _ us hl => match us, hl with | [_, _], _ => rfl⟩
  have q_tree_over_names_land : CalleeK l.prog w K mg base (([(c_inner_of, t_inner_of), (c_tree_over, t_tree_over)] : List (Addr × Addr)).map (·.2)) "tree_over" 7 p_tree_over ["names", "land"] [1, 0] G_ptov := ⟨f_tree_over, fd_tree_over, r_tree_over, m_tree_over, k_tree_over, F_tree_over.kbn [1, 0] fun _ _ _ _ _ _ ws hl => match ws, hl with | [_, _], _ => rfl⟩
  have r__law_bag : FnOk l.prog w K mg base (L2.CX l.prog w) 1 f__law_bag fd__law_bag p__law_bag (spG K (([(c_inner_of, t_inner_of), (c_tree_over, t_tree_over)] : List (Addr × Addr)).map (·.2)) p__law_bag.length G_bag) := d__law_bag (P := l.prog) (w := w) (K := K) (mg := mg) (base := base) (T := ([(c_inner_of, t_inner_of), (c_tree_over, t_tree_over)] : List (Addr × Addr)).map (·.2)) (k := 0) B F__law_bag  
  have o__law_bag : Callee l.prog w K mg base (([(c_inner_of, t_inner_of), (c_tree_over, t_tree_over)] : List (Addr × Addr)).map (·.2)) "_law_bag" 1 p__law_bag G_bag := ⟨f__law_bag, fd__law_bag, r__law_bag, m__law_bag, k__law_bag, F__law_bag.binds fun _ _ _ _ _ _ us hl => match us, hl with | [_], _ => rfl⟩
  have r__law_draw : FnOk l.prog w K mg base (L2.CX l.prog w) 1 f__law_draw fd__law_draw p__law_draw (spG K (([(c_inner_of, t_inner_of), (c_tree_over, t_tree_over)] : List (Addr × Addr)).map (·.2)) p__law_draw.length G_draw) := d__law_draw (P := l.prog) (w := w) (K := K) (mg := mg) (base := base) (T := ([(c_inner_of, t_inner_of), (c_tree_over, t_tree_over)] : List (Addr × Addr)).map (·.2)) (k := 0) B F__law_draw  
  have o__law_draw : Callee l.prog w K mg base (([(c_inner_of, t_inner_of), (c_tree_over, t_tree_over)] : List (Addr × Addr)).map (·.2)) "_law_draw" 1 p__law_draw G_draw := ⟨f__law_draw, fd__law_draw, r__law_draw, m__law_draw, k__law_draw, F__law_draw.binds fun _ _ _ _ _ _ us hl => match us, hl with | [_, _], _ => rfl⟩
  have r__law_pick : FnOk l.prog w K mg base (L2.CX l.prog w) 2 f__law_pick fd__law_pick p__law_pick (spG K (([(c_inner_of, t_inner_of), (c_tree_over, t_tree_over)] : List (Addr × Addr)).map (·.2)) p__law_pick.length G_pick) := d__law_pick (P := l.prog) (w := w) (K := K) (mg := mg) (base := base) (T := ([(c_inner_of, t_inner_of), (c_tree_over, t_tree_over)] : List (Addr × Addr)).map (·.2)) (k := 1) B F__law_pick (c__law_draw := o__law_draw) (hC__law_draw := by decide)
  have o__law_pick : Callee l.prog w K mg base (([(c_inner_of, t_inner_of), (c_tree_over, t_tree_over)] : List (Addr × Addr)).map (·.2)) "_law_pick" 2 p__law_pick G_pick := ⟨f__law_pick, fd__law_pick, r__law_pick, m__law_pick, k__law_pick, F__law_pick.binds fun _ _ _ _ _ _ us hl => match us, hl with | [_, _], _ => rfl⟩
  have r__law_some : FnOk l.prog w K mg base (L2.CX l.prog w) 2 f__law_some fd__law_some p__law_some (spG K (([(c_inner_of, t_inner_of), (c_tree_over, t_tree_over)] : List (Addr × Addr)).map (·.2)) p__law_some.length G_some) := d__law_some (P := l.prog) (w := w) (K := K) (mg := mg) (base := base) (T := ([(c_inner_of, t_inner_of), (c_tree_over, t_tree_over)] : List (Addr × Addr)).map (·.2)) (k := 1) B F__law_some (c__law_draw := o__law_draw) (hC__law_draw := by decide)
  have o__law_some : Callee l.prog w K mg base (([(c_inner_of, t_inner_of), (c_tree_over, t_tree_over)] : List (Addr × Addr)).map (·.2)) "_law_some" 2 p__law_some G_some := ⟨f__law_some, fd__law_some, r__law_some, m__law_some, k__law_some, F__law_some.binds fun _ _ _ _ _ _ us hl => match us, hl with | [_, _, _], _ => rfl⟩
  have o__law_same : ∀ j, Callee l.prog w K mg base (([(c_inner_of, t_inner_of), (c_tree_over, t_tree_over)] : List (Addr × Addr)).map (·.2)) "_law_same" j p__law_same (G_same j) := fun j => by
    induction j with
    | zero => exact ⟨f__law_same, fd__law_same, fn_bad 0, m__law_same, k__law_same, F__law_same.binds fun _ _ _ _ _ _ us hl => match us, hl with | [_, _], _ => rfl⟩
    | succ j ih => exact ⟨f__law_same, fd__law_same, d__law_same (P := l.prog) (w := w) (K := K) (mg := mg) (base := base) (T := ([(c_inner_of, t_inner_of), (c_tree_over, t_tree_over)] : List (Addr × Addr)).map (·.2)) B F__law_same (c__law_same := ih) (hC__law_same := Nat.le_refl _), m__law_same, k__law_same, F__law_same.binds fun _ _ _ _ _ _ us hl => match us, hl with | [_, _], _ => rfl⟩
  have r__law_names : FnOk l.prog w K mg base (L2.CX l.prog w) 2 f__law_names fd__law_names p__law_names (spG K (([(c_inner_of, t_inner_of), (c_tree_over, t_tree_over)] : List (Addr × Addr)).map (·.2)) p__law_names.length G_names) := d__law_names (P := l.prog) (w := w) (K := K) (mg := mg) (base := base) (T := ([(c_inner_of, t_inner_of), (c_tree_over, t_tree_over)] : List (Addr × Addr)).map (·.2)) (k := 1) B F__law_names (c__law_draw := o__law_draw) (hC__law_draw := by decide)
  have o__law_names : Callee l.prog w K mg base (([(c_inner_of, t_inner_of), (c_tree_over, t_tree_over)] : List (Addr × Addr)).map (·.2)) "_law_names" 2 p__law_names G_names := ⟨f__law_names, fd__law_names, r__law_names, m__law_names, k__law_names, F__law_names.binds fun _ _ _ _ _ _ us hl => match us, hl with | [_, _, _], _ => rfl⟩
  have r__law_land : FnOk l.prog w K mg base (L2.CX l.prog w) 3 f__law_land fd__law_land p__law_land (spG K (([(c_inner_of, t_inner_of), (c_tree_over, t_tree_over)] : List (Addr × Addr)).map (·.2)) p__law_land.length G_land) := d__law_land (P := l.prog) (w := w) (K := K) (mg := mg) (base := base) (T := ([(c_inner_of, t_inner_of), (c_tree_over, t_tree_over)] : List (Addr × Addr)).map (·.2)) (k := 2) B F__law_land (c__law_draw := o__law_draw) (c__law_names := o__law_names) (c__law_pick := o__law_pick) (c__law_some := o__law_some) (hC__law_draw := by decide) (hC__law_names := by decide) (hC__law_pick := by decide) (hC__law_some := by decide)
  have o__law_land : Callee l.prog w K mg base (([(c_inner_of, t_inner_of), (c_tree_over, t_tree_over)] : List (Addr × Addr)).map (·.2)) "_law_land" 3 p__law_land G_land := ⟨f__law_land, fd__law_land, r__law_land, m__law_land, k__law_land, F__law_land.binds fun _ _ _ _ _ _ us hl => match us, hl with | [_, _, _], _ => rfl⟩
  have r__law_ends : FnOk l.prog w K mg base (L2.CX l.prog w) 1 f__law_ends fd__law_ends p__law_ends (spG K (([(c_inner_of, t_inner_of), (c_tree_over, t_tree_over)] : List (Addr × Addr)).map (·.2)) p__law_ends.length G_ends) := d__law_ends (P := l.prog) (w := w) (K := K) (mg := mg) (base := base) (T := ([(c_inner_of, t_inner_of), (c_tree_over, t_tree_over)] : List (Addr × Addr)).map (·.2)) (k := 0) B F__law_ends  
  have o__law_ends : Callee l.prog w K mg base (([(c_inner_of, t_inner_of), (c_tree_over, t_tree_over)] : List (Addr × Addr)).map (·.2)) "_law_ends" 1 p__law_ends G_ends := ⟨f__law_ends, fd__law_ends, r__law_ends, m__law_ends, k__law_ends, F__law_ends.binds fun _ _ _ _ _ _ us hl => match us, hl with | [_], _ => rfl⟩
  have r__law_labels : FnOk l.prog w K mg base (L2.CX l.prog w) 1 f__law_labels fd__law_labels p__law_labels (spG K (([(c_inner_of, t_inner_of), (c_tree_over, t_tree_over)] : List (Addr × Addr)).map (·.2)) p__law_labels.length G_labs) := d__law_labels (P := l.prog) (w := w) (K := K) (mg := mg) (base := base) (T := ([(c_inner_of, t_inner_of), (c_tree_over, t_tree_over)] : List (Addr × Addr)).map (·.2)) (k := 0) B F__law_labels  
  have o__law_labels : Callee l.prog w K mg base (([(c_inner_of, t_inner_of), (c_tree_over, t_tree_over)] : List (Addr × Addr)).map (·.2)) "_law_labels" 1 p__law_labels G_labs := ⟨f__law_labels, fd__law_labels, r__law_labels, m__law_labels, k__law_labels, F__law_labels.binds fun _ _ _ _ _ _ us hl => match us, hl with | [_, _], _ => rfl⟩
  have r__law_chosen : FnOk l.prog w K mg base (L2.CX l.prog w) 1 f__law_chosen fd__law_chosen p__law_chosen (spG K (([(c_inner_of, t_inner_of), (c_tree_over, t_tree_over)] : List (Addr × Addr)).map (·.2)) p__law_chosen.length G_chos) := d__law_chosen (P := l.prog) (w := w) (K := K) (mg := mg) (base := base) (T := ([(c_inner_of, t_inner_of), (c_tree_over, t_tree_over)] : List (Addr × Addr)).map (·.2)) (k := 0) B F__law_chosen  
  have o__law_chosen : Callee l.prog w K mg base (([(c_inner_of, t_inner_of), (c_tree_over, t_tree_over)] : List (Addr × Addr)).map (·.2)) "_law_chosen" 1 p__law_chosen G_chos := ⟨f__law_chosen, fd__law_chosen, r__law_chosen, m__law_chosen, k__law_chosen, F__law_chosen.binds fun _ _ _ _ _ _ us hl => match us, hl with | [_, _], _ => rfl⟩
  have r__law_all_trees : FnOk l.prog w K mg base (L2.CX l.prog w) 2 f__law_all_trees fd__law_all_trees p__law_all_trees (spG K (([(c_inner_of, t_inner_of), (c_tree_over, t_tree_over)] : List (Addr × Addr)).map (·.2)) p__law_all_trees.length G_trees) := d__law_all_trees (P := l.prog) (w := w) (K := K) (mg := mg) (base := base) (T := ([(c_inner_of, t_inner_of), (c_tree_over, t_tree_over)] : List (Addr × Addr)).map (·.2)) (k := 1) B F__law_all_trees (c__law_chosen := o__law_chosen) (c__law_ends := o__law_ends) (c__law_labels := o__law_labels) (hC__law_chosen := by decide) (hC__law_ends := by decide) (hC__law_labels := by decide)
  have o__law_all_trees : Callee l.prog w K mg base (([(c_inner_of, t_inner_of), (c_tree_over, t_tree_over)] : List (Addr × Addr)).map (·.2)) "_law_all_trees" 2 p__law_all_trees G_trees := ⟨f__law_all_trees, fd__law_all_trees, r__law_all_trees, m__law_all_trees, k__law_all_trees, F__law_all_trees.binds fun _ _ _ _ _ _ us hl => match us, hl with | [_], _ => rfl⟩
  have r__law_sides : FnOk l.prog w K mg base (L2.CX l.prog w) 2 f__law_sides fd__law_sides p__law_sides (spG K (([(c_inner_of, t_inner_of), (c_tree_over, t_tree_over)] : List (Addr × Addr)).map (·.2)) p__law_sides.length G_sides) := d__law_sides (P := l.prog) (w := w) (K := K) (mg := mg) (base := base) (T := ([(c_inner_of, t_inner_of), (c_tree_over, t_tree_over)] : List (Addr × Addr)).map (·.2)) (k := 1) B F__law_sides (c__law_ends := o__law_ends) (c__law_labels := o__law_labels) (hC__law_ends := by decide) (hC__law_labels := by decide)
  have o__law_sides : Callee l.prog w K mg base (([(c_inner_of, t_inner_of), (c_tree_over, t_tree_over)] : List (Addr × Addr)).map (·.2)) "_law_sides" 2 p__law_sides G_sides := ⟨f__law_sides, fd__law_sides, r__law_sides, m__law_sides, k__law_sides, F__law_sides.binds fun _ _ _ _ _ _ us hl => match us, hl with | [_, _], _ => rfl⟩
  have r__law_between : FnOk l.prog w K mg base (L2.CX l.prog w) 3 f__law_between fd__law_between p__law_between (spG K (([(c_inner_of, t_inner_of), (c_tree_over, t_tree_over)] : List (Addr × Addr)).map (·.2)) p__law_between.length G_betw) := d__law_between (P := l.prog) (w := w) (K := K) (mg := mg) (base := base) (T := ([(c_inner_of, t_inner_of), (c_tree_over, t_tree_over)] : List (Addr × Addr)).map (·.2)) (k := 2) B F__law_between (c__law_ends := o__law_ends) (c__law_sides := o__law_sides) (hC__law_ends := by decide) (hC__law_sides := by decide)
  have o__law_between : Callee l.prog w K mg base (([(c_inner_of, t_inner_of), (c_tree_over, t_tree_over)] : List (Addr × Addr)).map (·.2)) "_law_between" 3 p__law_between G_betw := ⟨f__law_between, fd__law_between, r__law_between, m__law_between, k__law_between, F__law_between.binds fun _ _ _ _ _ _ us hl => match us, hl with | [_, _], _ => rfl⟩
  have r__law_named : FnOk l.prog w K mg base (L2.CX l.prog w) 1 f__law_named fd__law_named p__law_named (spG K (([(c_inner_of, t_inner_of), (c_tree_over, t_tree_over)] : List (Addr × Addr)).map (·.2)) p__law_named.length G_lnam) := d__law_named (P := l.prog) (w := w) (K := K) (mg := mg) (base := base) (T := ([(c_inner_of, t_inner_of), (c_tree_over, t_tree_over)] : List (Addr × Addr)).map (·.2)) (k := 0) B F__law_named  
  have o__law_named : Callee l.prog w K mg base (([(c_inner_of, t_inner_of), (c_tree_over, t_tree_over)] : List (Addr × Addr)).map (·.2)) "_law_named" 1 p__law_named G_lnam := ⟨f__law_named, fd__law_named, r__law_named, m__law_named, k__law_named, F__law_named.binds fun _ _ _ _ _ _ us hl => match us, hl with | [_, _], _ => rfl⟩
  have r__law_free_sets : FnOk l.prog w K mg base (L2.CX l.prog w) 2 f__law_free_sets fd__law_free_sets p__law_free_sets (spG K (([(c_inner_of, t_inner_of), (c_tree_over, t_tree_over)] : List (Addr × Addr)).map (·.2)) p__law_free_sets.length G_free) := d__law_free_sets (P := l.prog) (w := w) (K := K) (mg := mg) (base := base) (T := ([(c_inner_of, t_inner_of), (c_tree_over, t_tree_over)] : List (Addr × Addr)).map (·.2)) (k := 1) B F__law_free_sets (c__law_ends := o__law_ends) (c__law_labels := o__law_labels) (hC__law_ends := by decide) (hC__law_labels := by decide)
  have o__law_free_sets : Callee l.prog w K mg base (([(c_inner_of, t_inner_of), (c_tree_over, t_tree_over)] : List (Addr × Addr)).map (·.2)) "_law_free_sets" 2 p__law_free_sets G_free := ⟨f__law_free_sets, fd__law_free_sets, r__law_free_sets, m__law_free_sets, k__law_free_sets, F__law_free_sets.binds fun _ _ _ _ _ _ us hl => match us, hl with | [_], _ => rfl⟩
  have r__law_tree_over : FnOk l.prog w K mg base (L2.CX l.prog w) 2 f__law_tree_over fd__law_tree_over p__law_tree_over (spG K (([(c_inner_of, t_inner_of), (c_tree_over, t_tree_over)] : List (Addr × Addr)).map (·.2)) p__law_tree_over.length G_ltov) := d__law_tree_over (P := l.prog) (w := w) (K := K) (mg := mg) (base := base) (T := ([(c_inner_of, t_inner_of), (c_tree_over, t_tree_over)] : List (Addr × Addr)).map (·.2)) (k := 1) B F__law_tree_over (c__law_ends := o__law_ends) (c__law_labels := o__law_labels) (hC__law_ends := by decide) (hC__law_labels := by decide)
  have o__law_tree_over : Callee l.prog w K mg base (([(c_inner_of, t_inner_of), (c_tree_over, t_tree_over)] : List (Addr × Addr)).map (·.2)) "_law_tree_over" 2 p__law_tree_over G_ltov := ⟨f__law_tree_over, fd__law_tree_over, r__law_tree_over, m__law_tree_over, k__law_tree_over, F__law_tree_over.binds fun _ _ _ _ _ _ us hl => match us, hl with | [_, _], _ => rfl⟩
  have r__law_last_ones : FnOk l.prog w K mg base (L2.CX l.prog w) 4 f__law_last_ones fd__law_last_ones p__law_last_ones (spG K (([(c_inner_of, t_inner_of), (c_tree_over, t_tree_over)] : List (Addr × Addr)).map (·.2)) p__law_last_ones.length G_last) := d__law_last_ones (P := l.prog) (w := w) (K := K) (mg := mg) (base := base) (T := ([(c_inner_of, t_inner_of), (c_tree_over, t_tree_over)] : List (Addr × Addr)).map (·.2)) (k := 3) B F__law_last_ones (c__law_between := o__law_between) (hC__law_between := by decide)
  have o__law_last_ones : Callee l.prog w K mg base (([(c_inner_of, t_inner_of), (c_tree_over, t_tree_over)] : List (Addr × Addr)).map (·.2)) "_law_last_ones" 4 p__law_last_ones G_last := ⟨f__law_last_ones, fd__law_last_ones, r__law_last_ones, m__law_last_ones, k__law_last_ones, F__law_last_ones.binds fun _ _ _ _ _ _ us hl => match us, hl with | [_, _], _ => rfl⟩
  have r__law_two_to : FnOk l.prog w K mg base (L2.CX l.prog w) 1 f__law_two_to fd__law_two_to p__law_two_to (spG K (([(c_inner_of, t_inner_of), (c_tree_over, t_tree_over)] : List (Addr × Addr)).map (·.2)) p__law_two_to.length G_two) := d__law_two_to (P := l.prog) (w := w) (K := K) (mg := mg) (base := base) (T := ([(c_inner_of, t_inner_of), (c_tree_over, t_tree_over)] : List (Addr × Addr)).map (·.2)) (k := 0) B F__law_two_to  
  have o__law_two_to : Callee l.prog w K mg base (([(c_inner_of, t_inner_of), (c_tree_over, t_tree_over)] : List (Addr × Addr)).map (·.2)) "_law_two_to" 1 p__law_two_to G_two := ⟨f__law_two_to, fd__law_two_to, r__law_two_to, m__law_two_to, k__law_two_to, F__law_two_to.binds fun _ _ _ _ _ _ us hl => match us, hl with | [_], _ => rfl⟩
  exact d_law (P := l.prog) (w := w) (K := K) (mg := mg) (base := base) (T := ([(c_inner_of, t_inner_of), (c_tree_over, t_tree_over)] : List (Addr × Addr)).map (·.2)) (k := 10) B F_law (c__law_all_trees := o__law_all_trees) (c__law_bag := o__law_bag) (c__law_draw := o__law_draw) (c__law_free_sets := o__law_free_sets) (c__law_land := o__law_land) (c__law_last_ones := o__law_last_ones) (c__law_named := o__law_named) (c__law_same := (o__law_same 2)) (c__law_tree_over := o__law_tree_over) (c__law_two_to := o__law_two_to) (c_inner_level := o_inner_level) (c_tree_over := o_tree_over) (k_tree_over_names_land := q_tree_over_names_land) (hC__law_all_trees := by decide) (hC__law_bag := by decide) (hC__law_draw := by decide) (hC__law_free_sets := by decide) (hC__law_land := by decide) (hC__law_last_ones := by decide) (hC__law_named := by decide) (hC__law_same := by decide) (hC__law_tree_over := by decide) (hC__law_two_to := by decide) (hC_inner_level := by decide) (hC_tree_over := by decide)
end
end Z
open PySem PySem.W PyProof.Rows
set_option maxRecDepth 100000 in
set_option maxHeartbeats 0 in
theorem PySem.Challenge.cw_sendround_k77_sets_under_trees_holds : PySem.Challenge.rw_sendround_k77_sets_under_trees.Holds := by
  w_on; o_law; k_head; (case hw => w_witness2)
  k_fill
  refine Z.walkZ (l := PySem.Challenge.rw_sendround_k77_sets_under_trees) (n := 63) (k := 11) (x := "script") rfl (by decide) rfl ⟨rfl, by decide, by decide⟩ (fun w h Y => PySem.W.kIn_of Y) ?F
  case F =>
    intro w mg mb mean fa h Y KX G hmg Tp
    refine' Z.all_z (h := h) (mg := mg) ⟨PySem.W.mg_none_of KX G ?z_abs, PySem.W.mg_none_of KX G ?z_bool, PySem.W.mg_none_of KX G ?z_dict, PySem.W.mg_none_of KX G ?z_enumerate, PySem.W.mg_none_of KX G ?z_int, PySem.W.mg_none_of KX G ?z_isinstance, PySem.W.mg_none_of KX G ?z_len, PySem.W.mg_none_of KX G ?z_list, PySem.W.mg_none_of KX G ?z_max, PySem.W.mg_none_of KX G ?z_range, PySem.W.mg_none_of KX G ?z_sorted, PySem.W.mg_none_of KX G ?z_str, PySem.W.mg_none_of KX G ?z_sum, PySem.W.mg_none_of KX G ?z_tuple⟩ hmg ?D_pairs_of ?D_reached ?D_road_numbers ?D_cut_roads ?D_inner_of ?D_inner_level ?D_tree_over ?D__law_bag ?D__law_draw ?D__law_pick ?D__law_some ?D__law_same ?D__law_names ?D__law_land ?D__law_ends ?D__law_labels ?D__law_chosen ?D__law_all_trees ?D__law_sides ?D__law_between ?D__law_named ?D__law_free_sets ?D__law_tree_over ?D__law_last_ones ?D__law_two_to ?D_law
    (case z_abs => k_is)
    (case z_bool => k_is)
    (case z_dict => k_is)
    (case z_enumerate => k_is)
    (case z_int => k_is)
    (case z_isinstance => k_is)
    (case z_len => k_is)
    (case z_list => k_is)
    (case z_max => k_is)
    (case z_range => k_is)
    (case z_sorted => k_is)
    (case z_str => k_is)
    (case z_sum => k_is)
    (case z_tuple => k_is)
    (case D_pairs_of => refine' Z.def_mk KX G ?a ?l ?c ?k; (case a => k_is); (case l => k_is); (case c => k_is); (case k => k_is))
    (case D_reached => refine' Z.def_mk KX G ?a ?l ?c ?k; (case a => k_is); (case l => k_is); (case c => k_is); (case k => k_is))
    (case D_road_numbers => refine' Z.def_mk KX G ?a ?l ?c ?k; (case a => k_is); (case l => k_is); (case c => k_is); (case k => k_is))
    (case D_cut_roads => refine' Z.def_mk KX G ?a ?l ?c ?k; (case a => k_is); (case l => k_is); (case c => k_is); (case k => k_is))
    (case D_inner_of => refine' Z.deft_mk KX G Tp ?a ?l ?c ?k ?t ?u ?n ?r; (case a => k_is); (case l => k_is); (case c => k_is); (case k => k_is); (case t => k_is); (case u => rfl); (case n => kernel_rfl); (case r => rfl))
    (case D_inner_level => refine' Z.def_mk KX G ?a ?l ?c ?k; (case a => k_is); (case l => k_is); (case c => k_is); (case k => k_is))
    (case D_tree_over => refine' Z.deft_mk KX G Tp ?a ?l ?c ?k ?t ?u ?n ?r; (case a => k_is); (case l => k_is); (case c => k_is); (case k => k_is); (case t => k_is); (case u => rfl); (case n => kernel_rfl); (case r => rfl))
    (case D__law_bag => refine' Z.def_mk KX G ?a ?l ?c ?k; (case a => k_is); (case l => k_is); (case c => k_is); (case k => k_is))
    (case D__law_draw => refine' Z.def_mk KX G ?a ?l ?c ?k; (case a => k_is); (case l => k_is); (case c => k_is); (case k => k_is))
    (case D__law_pick => refine' Z.def_mk KX G ?a ?l ?c ?k; (case a => k_is); (case l => k_is); (case c => k_is); (case k => k_is))
    (case D__law_some => refine' Z.def_mk KX G ?a ?l ?c ?k; (case a => k_is); (case l => k_is); (case c => k_is); (case k => k_is))
    (case D__law_same => refine' Z.def_mk KX G ?a ?l ?c ?k; (case a => k_is); (case l => k_is); (case c => k_is); (case k => k_is))
    (case D__law_names => refine' Z.def_mk KX G ?a ?l ?c ?k; (case a => k_is); (case l => k_is); (case c => k_is); (case k => k_is))
    (case D__law_land => refine' Z.def_mk KX G ?a ?l ?c ?k; (case a => k_is); (case l => k_is); (case c => k_is); (case k => k_is))
    (case D__law_ends => refine' Z.def_mk KX G ?a ?l ?c ?k; (case a => k_is); (case l => k_is); (case c => k_is); (case k => k_is))
    (case D__law_labels => refine' Z.def_mk KX G ?a ?l ?c ?k; (case a => k_is); (case l => k_is); (case c => k_is); (case k => k_is))
    (case D__law_chosen => refine' Z.def_mk KX G ?a ?l ?c ?k; (case a => k_is); (case l => k_is); (case c => k_is); (case k => k_is))
    (case D__law_all_trees => refine' Z.def_mk KX G ?a ?l ?c ?k; (case a => k_is); (case l => k_is); (case c => k_is); (case k => k_is))
    (case D__law_sides => refine' Z.def_mk KX G ?a ?l ?c ?k; (case a => k_is); (case l => k_is); (case c => k_is); (case k => k_is))
    (case D__law_between => refine' Z.def_mk KX G ?a ?l ?c ?k; (case a => k_is); (case l => k_is); (case c => k_is); (case k => k_is))
    (case D__law_named => refine' Z.def_mk KX G ?a ?l ?c ?k; (case a => k_is); (case l => k_is); (case c => k_is); (case k => k_is))
    (case D__law_free_sets => refine' Z.def_mk KX G ?a ?l ?c ?k; (case a => k_is); (case l => k_is); (case c => k_is); (case k => k_is))
    (case D__law_tree_over => refine' Z.def_mk KX G ?a ?l ?c ?k; (case a => k_is); (case l => k_is); (case c => k_is); (case k => k_is))
    (case D__law_last_ones => refine' Z.def_mk KX G ?a ?l ?c ?k; (case a => k_is); (case l => k_is); (case c => k_is); (case k => k_is))
    (case D__law_two_to => refine' Z.def_mk KX G ?a ?l ?c ?k; (case a => k_is); (case l => k_is); (case c => k_is); (case k => k_is))
    (case D_law => refine' Z.def_mk KX G ?a ?l ?c ?k; (case a => k_is); (case l => k_is); (case c => k_is); (case k => k_is))
