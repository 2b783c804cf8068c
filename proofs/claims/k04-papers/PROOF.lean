import PyProof.Rows.All
import Wide.All
import OpenK.AllK
import Wide.FinOn
import HandS.Defaults
import HandS.Evl
import HandS.ExcValue
import HandS.Flow
import HandS.ForMost
import HandS.Head0
import HandS.Head1
import HandS.Head2
import HandS.HeadEnd
import HandS.HeadHook1
import HandS.HeadHook2
import HandS.IsInst
import HandS.Iter
import HandS.NoneIn
import HandS.StrSplit
import HandS.Style
import HandS.Text
import HandS.TupAny
import HandS.TupLe
import HandS.Wide
import HandS.Zip
import KE.GoesEnum
import KE.GoesMore
import KE.GoesZip
import KE.KDictCopyH
import KE.KDictSum
import KE.KStateDown
import KE.KeyNested
import KE.SortData
import PyProof.Rows.IntBool
import PyProof.StrOps2
import PySem.Challenge.RW_handmarks_k04_papers
set_option Elab.async false
set_option linter.all false
set_option maxRecDepth 100000
/-! Hm0: results, immutable data over the abstract heap -/
namespace Hm
open PySem L2

abbrev D := PyData

/-- a result: stuck, an exception of the class named, a value -/
inductive Rs (t : Type) where
  | bad
  | exc (c : Str)
  | ok (x : t)
namespace Rs
def bind {a b : Type} : Rs a → (a → Rs b) → Rs b
  | .bad, _ => .bad
  | .exc c, _ => .exc c
  | .ok x, f => f x
instance : Monad Rs where
  pure := Rs.ok
  bind := Rs.bind
@[simp] theorem ok_bind {a b : Type} (x : a) (f : a → Rs b) : (Rs.ok x >>= f) = f x := rfl
@[simp] theorem bad_bind {a b : Type} (f : a → Rs b) : ((Rs.bad : Rs a) >>= f) = Rs.bad := rfl
@[simp] theorem exc_bind {a b : Type} (c : Str) (f : a → Rs b) : ((Rs.exc c : Rs a) >>= f) = Rs.exc c := rfl
@[simp] theorem pure_eq {a : Type} (x : a) : (pure x : Rs a) = Rs.ok x := rfl
/-- some or stuck -/
def of {a : Type} : Option a → Rs a
  | some x => .ok x
  | none => .bad
@[simp] theorem of_some {a : Type} (x : a) : Rs.of (some x) = Rs.ok x := rfl
@[simp] theorem of_none {a : Type} : Rs.of (none : Option a) = Rs.bad := rfl
/-- a condition that must hold -/
def need (b : Bool) : Rs Unit := if b then .ok () else .bad
@[simp] theorem need_true : need true = .ok () := rfl
@[simp] theorem need_false : need false = .bad := rfl
theorem bind_ok {a b : Type} {r : Rs a} {f : a → Rs b} {y : b} (h : r.bind f = .ok y) : ∃ x, r = .ok x ∧ f x = .ok y := by
  cases r with
  | bad => cases h
  | exc c => cases h
  | ok x => exact ⟨x, rfl, h⟩
end Rs

/-! ### keys -/
mutual
/-- the key that a datum is -/
def nk : D → Option NestedKey
  | .none => some .none
  | .bool b => some (.num (if b = true then 1 else 0))
  | .int i => some (.num i)
  | .str x => some (.text x)
  | .tuple xs => (nks xs).map .tup
  | .list _ => none
  | .dict _ => none
def nks : List D → Option (List NestedKey)
  | [] => some []
  | x :: xs => match nk x, nks xs with
    | some k, some ks => some (k :: ks)
    | _, _ => none
end

/-- the key, if it is at most 8 deep -/
def keyOf (d : D) : Option NestedKey := (nk d).bind fun n => if n.depth ≤ 8 then some n else none
theorem keyOf_some {d : D} {n : NestedKey} (h : keyOf d = some n) : nk d = some n ∧ n.depth ≤ 8 := by
  unfold keyOf at h
  cases h2 : nk d with
  | none => rw [h2] at h; cases h
  | some m =>
    rw [h2] at h
    by_cases h3 : m.depth ≤ 8
    · simp only [Option.bind_some, h3, if_true] at h
      cases h
      exact ⟨rfl, h3⟩
    · simp only [Option.bind_some, h3, if_false] at h
      cases h

/-! ### dicts by their entries -/
def DicAt (a : Addr) (es : List DictEntry) (h : Heap) : Prop :=
  (a == sysModules) = false ∧ es.length ≤ sizeLine ∧ ∃ o ep, h.get? a = some o ∧ o.ExactDict ∧ o.data = .dict es.toArray ep
def dicO (a : Addr) (es : List DictEntry) : HO := .ext (DicAt a es)
theorem DicAt.stay {a : Addr} {es : List DictEntry} {h1 h2 : Heap} (x : DicAt a es h1) (k : ∀ o, h1.get? a = some o → h2.get? a = some o) : DicAt a es h2 := by
  obtain ⟨x1, x2, o, ep, ho, r⟩ := x
  exact ⟨x1, x2, o, ep, k o ho, r⟩
theorem dicO_ok {P : Program} {w : World} {H : Hp} {h : Heap} {a : Addr} {es : List DictEntry} (x : DicAt a es h) : ObjOk P w H h a (dicO a es) := by
  refine ⟨x, ?_, fun h1 h2 x1 k => x1.stay k⟩
  obtain ⟨_, _, o, ep, ho, _⟩ := x
  exact ⟨o, ho⟩

/-! ### data -/
mutual
/-- v stands for the datum d, and always will -/
inductive Da (K : PySem.W.Frag) (w : World) (H : Hp) : V → D → Prop
  | non : Da K w H .non .none
  | bl (b : Bool) : Da K w H (.bl b) (.bool b)
  | int (i : Int) : Da K w H (.int i) (.int i)
  | str (x : Str) : Da K w H (.str x) (.str x)
  | tup {a : Addr} {xs : List V} {ds : List D} : SqT K H a xs → DaL K w H xs ds → Da K w H (.ref a) (.tuple ds)
  | lst {a : Addr} {o : Obj} {xs : List V} {ds : List D} : H a = some (.frz o (.lst xs)) → DaL K w H xs ds → Da K w H (.ref a) (.list ds)
  | dic {a : Addr} {o : Obj} {es : List DictEntry} {kvs : List (D × D)} : H a = some (.frz o (dicO a es)) → DaE K w H es kvs → (kvs.map fun p => keyOf p.1).Nodup → Da K w H (.ref a) (.dict kvs)
inductive DaL (K : PySem.W.Frag) (w : World) (H : Hp) : List V → List D → Prop
  | nil : DaL K w H [] []
  | cons {v : V} {vs : List V} {d : D} {ds : List D} : Da K w H v d → DaL K w H vs ds → DaL K w H (v :: vs) (d :: ds)
inductive DaE (K : PySem.W.Frag) (w : World) (H : Hp) : List DictEntry → List (D × D) → Prop
  | nil : DaE K w H [] []
  | cons {k v : V} {u z : Value} {es : List DictEntry} {d e : D} {kvs : List (D × D)} {n : NestedKey} : RelV k u → Da K w H k d → RelV v z → Da K w H v e → keyOf d = some n →
      DaE K w H es kvs → DaE K w H (⟨n.hash w, u, z⟩ :: es) ((d, e) :: kvs)
end

/-- what never changes stays -/
structure Kp (H H' : Hp) : Prop where
  tup : ∀ b xs, H b = some (.tup xs) → H' b = some (.tup xs)
  frz : ∀ b o u, H b = some (.frz o u) → H' b = some (.frz o u)
theorem Kp.refl (H : Hp) : Kp H H := ⟨fun _ _ h => h, fun _ _ _ h => h⟩
theorem Kp.trans {H H1 H2 : Hp} (a : Kp H H1) (b : Kp H1 H2) : Kp H H2 := ⟨fun x xs h => b.tup x xs (a.tup x xs h), fun x o u h => b.frz x o u (a.frz x o u h)⟩
abbrev Ex := L2.Same
theorem Ex.kp {H H' : Hp} (e : Ex H H') : Kp H H' := ⟨fun b xs h => e b _ h, fun b o u h => e b _ h⟩
theorem Ex.rf (H : Hp) : Ex H H := fun _ _ h => h
theorem Ex.tr {H H1 H2 : Hp} (a : Ex H H1) (b : Ex H1 H2) : Ex H H2 := fun x o h => b x o (a x o h)
theorem Ex.nw {H : Hp} {p : Addr} {o : HO} (h : H p = none) : Ex H (upd H p o) := fun a u e => by
  rw [upd_ne (ne_of_none e h)]; exact e
theorem Ex.fresh {H H' : Hp} {p : Addr} (e : Ex H H') (h : H' p = none) : H p = none := by
  cases h1 : H p with
  | none => rfl
  | some o => rw [e p o h1] at h; cases h
theorem Ex.mt {H H' : Hp} {p : Addr} {o : HO} (e : Ex H H') (h : H p = none) : Ex H (upd H' p o) := fun a u ha => by
  rw [upd_ne (ne_of_none ha h)]; exact e a u ha
/-- an object that can change is changed -/
theorem Kp.mt {H : Hp} {p : Addr} {o : HO} (h : Mut (H p) ∨ H p = none) : Kp H (upd H p o) := by
  refine ⟨fun b xs e => ?_, fun b ob u e => ?_⟩
  · have : b ≠ p := fun q => by subst q; rw [e] at h; rcases h with h | h; exact h; cases h
    rw [upd_ne this]; exact e
  · have : b ≠ p := fun q => by subst q; rw [e] at h; rcases h with h | h; exact h; cases h
    rw [upd_ne this]; exact e
theorem Kp.sqT {K : PySem.W.Frag} {H H' : Hp} {a : Addr} {xs : List V} (k : Kp H H') (h : SqT K H a xs) : SqT K H' a xs := by
  rcases h with (h | ⟨o, h⟩) | h
  · exact .inl (.inl (k.tup _ _ h))
  · exact .inl (.inr ⟨o, k.frz _ _ _ h⟩)
  · exact .inr h

section
variable {K : PySem.W.Frag} {w : World} {H H' : Hp}
mutual
theorem Da.kp (k : Kp H H') : ∀ {v : V} {d : D}, Da K w H v d → Da K w H' v d
  | _, _, .non => .non
  | _, _, .bl b => .bl b
  | _, _, .int i => .int i
  | _, _, .str x => .str x
  | _, _, .tup h a => .tup (k.sqT h) (DaL.kp k a)
  | _, _, .lst h a => .lst (k.frz _ _ _ h) (DaL.kp k a)
  | _, _, .dic h a n => .dic (k.frz _ _ _ h) (DaE.kp k a) n
theorem DaL.kp (k : Kp H H') : ∀ {v : List V} {d : List D}, DaL K w H v d → DaL K w H' v d
  | _, _, .nil => .nil
  | _, _, .cons h a => .cons (Da.kp k h) (DaL.kp k a)
theorem DaE.kp (k : Kp H H') : ∀ {v : List DictEntry} {d : List (D × D)}, DaE K w H v d → DaE K w H' v d
  | _, _, .nil => .nil
  | _, _, .cons r1 h1 r2 h2 n a => .cons r1 (Da.kp k h1) r2 (Da.kp k h2) n (DaE.kp k a)
end
theorem Da.ex {v : V} {d : D} (e : Ex H H') (h : Da K w H v d) : Da K w H' v d := h.kp e.kp
theorem DaL.ex {v : List V} {d : List D} (e : Ex H H') (h : DaL K w H v d) : DaL K w H' v d := h.kp e.kp
theorem DaE.ex {v : List DictEntry} {d : List (D × D)} (e : Ex H H') (h : DaE K w H v d) : DaE K w H' v d := h.kp e.kp

/-! lists of data -/
theorem DaL.length : ∀ {vs : List V} {ds : List D}, DaL K w H vs ds → vs.length = ds.length
  | _, _, .nil => rfl
  | _, _, .cons _ a => by simp [DaL.length a]
theorem DaL.get : ∀ {vs : List V} {ds : List D} {i : Nat} {d : D}, DaL K w H vs ds → ds[i]? = some d → ∃ v, vs[i]? = some v ∧ Da K w H v d
  | _, _, _, _, .nil, e => by simp at e
  | _, _, 0, _, .cons h _, e => by simp at e; subst e; exact ⟨_, rfl, h⟩
  | _, _, i + 1, d, .cons _ a, e => by
    obtain ⟨v, h1, h2⟩ := DaL.get (i := i) (d := d) a (by simpa using e)
    exact ⟨v, by simpa using h1, h2⟩
theorem DaL.getV : ∀ {vs : List V} {ds : List D} {i : Nat} {v : V}, DaL K w H vs ds → vs[i]? = some v → ∃ d, ds[i]? = some d ∧ Da K w H v d
  | _, _, _, _, .nil, e => by simp at e
  | _, _, 0, _, .cons h _, e => by simp at e; subst e; exact ⟨_, rfl, h⟩
  | _, _, i + 1, d, .cons _ a, e => by
    obtain ⟨v, h1, h2⟩ := DaL.getV (i := i) (v := d) a (by simpa using e)
    exact ⟨v, by simpa using h1, h2⟩
theorem DaL.append : ∀ {vs us : List V} {ds es : List D}, DaL K w H vs ds → DaL K w H us es → DaL K w H (vs ++ us) (ds ++ es)
  | _, _, _, _, .nil, b => b
  | _, _, _, _, .cons h a, b => .cons h (DaL.append a b)
theorem DaL.take : ∀ {vs : List V} {ds : List D} (n : Nat), DaL K w H vs ds → DaL K w H (vs.take n) (ds.take n)
  | _, _, 0, _ => by simp only [List.take_zero]; exact .nil
  | _, _, _ + 1, .nil => .nil
  | _, _, n + 1, .cons h a => .cons h (DaL.take n a)
theorem DaL.drop : ∀ {vs : List V} {ds : List D} (n : Nat), DaL K w H vs ds → DaL K w H (vs.drop n) (ds.drop n)
  | _, _, 0, a => a
  | _, _, _ + 1, .nil => .nil
  | _, _, n + 1, .cons _ a => DaL.drop n a
theorem DaL.reverse : ∀ {vs : List V} {ds : List D}, DaL K w H vs ds → DaL K w H vs.reverse ds.reverse
  | _, _, .nil => .nil
  | _, _, .cons h a => by simp only [List.reverse_cons]; exact (DaL.reverse a).append (.cons h .nil)
theorem DaL.set {v : V} {d : D} (h : Da K w H v d) : ∀ {vs : List V} {ds : List D} (i : Nat), DaL K w H vs ds → DaL K w H (vs.set i v) (ds.set i d)
  | _, _, _, .nil => .nil
  | _, _, 0, .cons _ a => .cons h a
  | _, _, i + 1, .cons q a => .cons q (DaL.set h i a)
theorem DaL.nil_iff {vs : List V} {ds : List D} (h : DaL K w H vs ds) : vs = [] ↔ ds = [] := by
  cases h with
  | nil => simp
  | cons _ _ => simp
theorem DaL.isEmpty {vs : List V} {ds : List D} (h : DaL K w H vs ds) : vs.isEmpty = ds.isEmpty := by
  cases h with
  | nil => rfl
  | cons _ _ => rfl
theorem DaE.length : ∀ {es : List DictEntry} {kvs : List (D × D)}, DaE K w H es kvs → es.length = kvs.length
  | _, _, .nil => rfl
  | _, _, .cons _ _ _ _ _ a => by simp [DaE.length a]
theorem DaE.append : ∀ {es fs : List DictEntry} {kvs lws : List (D × D)}, DaE K w H es kvs → DaE K w H fs lws → DaE K w H (es ++ fs) (kvs ++ lws)
  | _, _, _, _, .nil, b => b
  | _, _, _, _, .cons r1 h1 r2 h2 n a, b => .cons r1 h1 r2 h2 n (DaE.append a b)
end

/-! ### snapshots, new things -/
/-- v stands for d in H: data, or a list, a dict that may be written later -/
inductive Sn (K : PySem.W.Frag) (w : World) (H : Hp) : V → D → Prop
  | da {v : V} {d : D} : Da K w H v d → Sn K w H v d
  | lst {a : Addr} {xs : List V} {ds : List D} : H a = some (.lst xs) → DaL K w H xs ds → Sn K w H (.ref a) (.list ds)
  | dic {a : Addr} {es : List DictEntry} {kvs : List (D × D)} : H a = some (dicO a es) → DaE K w H es kvs → (kvs.map fun p => keyOf p.1).Nodup → Sn K w H (.ref a) (.dict kvs)
theorem Sn.ex {K : PySem.W.Frag} {w : World} {H H' : Hp} {v : V} {d : D} (e : Ex H H') (h : Sn K w H v d) : Sn K w H' v d := by
  cases h with
  | da h => exact .da (h.ex e)
  | lst h a => exact .lst (e _ _ h) (a.ex e)
  | dic h a n => exact .dic (e _ _ h) (a.ex e) n
/-- a new thing: a list or dict at a new address that nobody else knows, else data -/
inductive Nw (K : PySem.W.Frag) (w : World) (H H' : Hp) : V → D → Prop
  | lst {a : Addr} {xs : List V} {ds : List D} : H a = none → H' a = some (.lst xs) → DaL K w H' xs ds → Nw K w H H' (.ref a) (.list ds)
  | dic {a : Addr} {es : List DictEntry} {kvs : List (D × D)} : H a = none → H' a = some (dicO a es) → DaE K w H' es kvs → (kvs.map fun p => keyOf p.1).Nodup → Nw K w H H' (.ref a) (.dict kvs)
  | non : Nw K w H H' .non .none
  | bl (b : Bool) : Nw K w H H' (.bl b) (.bool b)
  | int (i : Int) : Nw K w H H' (.int i) (.int i)
  | str (x : Str) : Nw K w H H' (.str x) (.str x)
  | tup {v : V} {ds : List D} : Da K w H' v (.tuple ds) → Nw K w H H' v (.tuple ds)
inductive Md where
  | nw | da | sn
def Res (K : PySem.W.Frag) (w : World) : Md → Hp → Hp → V → D → Prop
  | .nw, H, H', v, d => Nw K w H H' v d
  | .da, _, H', v, d => Da K w H' v d
  | .sn, _, H', v, d => Sn K w H' v d
theorem Nw.sn {K : PySem.W.Frag} {w : World} {H H' : Hp} {v : V} {d : D} (h : Nw K w H H' v d) : Sn K w H' v d := by
  cases h with
  | lst _ h a => exact .lst h a
  | dic _ h a n => exact .dic h a n
  | non => exact .da .non
  | bl b => exact .da (.bl b)
  | int i => exact .da (.int i)
  | str x => exact .da (.str x)
  | tup h => exact .da h
theorem Res.sn {K : PySem.W.Frag} {w : World} {m : Md} {H H' : Hp} {v : V} {d : D} (h : Res K w m H H' v d) : Sn K w H' v d := by
  cases m with
  | nw => exact Nw.sn h
  | da => exact .da h
  | sn => exact h
theorem Nw.back {K : PySem.W.Frag} {w : World} {H0 H H' : Hp} {v : V} {d : D} (e : Ex H0 H) (h : Nw K w H H' v d) : Nw K w H0 H' v d := by
  cases h with
  | lst n h a => exact .lst (e.fresh n) h a
  | dic m h a n => exact .dic (e.fresh m) h a n
  | non => exact .non
  | bl b => exact .bl b
  | int i => exact .int i
  | str x => exact .str x
  | tup h => exact .tup h
theorem Res.back {K : PySem.W.Frag} {w : World} {m : Md} {H0 H H' : Hp} {v : V} {d : D} (e : Ex H0 H) (h : Res K w m H H' v d) : Res K w m H0 H' v d := by
  cases m with
  | nw => exact Nw.back e h
  | da => exact h
  | sn => exact h
end Hm
/-! Hm1: equality of data at the heap, without a look at the signs of texts -/
namespace Hm
open PySem L2 PySem.SeqAt

/-- no dict inside, at most n deep -/
def okD : Nat → D → Bool
  | _, .none => true
  | _, .bool _ => true
  | _, .int _ => true
  | _, .str _ => true
  | n + 1, .tuple xs => xs.all (okD n)
  | n + 1, .list xs => xs.all (okD n)
  | 0, .tuple _ => false
  | 0, .list _ => false
  | _, .dict _ => false
@[simp] theorem okD_none (n : Nat) : okD n .none = true := by cases n <;> rfl
@[simp] theorem okD_bool (n : Nat) (b : Bool) : okD n (.bool b) = true := by cases n <;> rfl
@[simp] theorem okD_int (n : Nat) (b : Int) : okD n (.int b) = true := by cases n <;> rfl
@[simp] theorem okD_str (n : Nat) (b : Str) : okD n (.str b) = true := by cases n <;> rfl
@[simp] theorem okD_tup (n : Nat) (xs : List D) : okD (n + 1) (.tuple xs) = xs.all (okD n) := rfl
@[simp] theorem okD_lst (n : Nat) (xs : List D) : okD (n + 1) (.list xs) = xs.all (okD n) := rfl
@[simp] theorem okD_dic (n : Nat) (xs : List (D × D)) : okD n (.dict xs) = false := by cases n <;> rfl
theorem okD_mono : ∀ (n m : Nat), n ≤ m → ∀ d, okD n d = true → okD m d = true
  | 0, _, _, d, h => by cases d <;> first | (cases h; done) | simp
  | n + 1, 0, l, _, _ => by omega
  | n + 1, m + 1, l, d, h => by
    cases d with
    | tuple xs =>
      rw [okD_tup, List.all_eq_true] at *
      exact fun x hx => okD_mono n m (by omega) x (h x hx)
    | list xs =>
      rw [okD_lst, List.all_eq_true] at *
      exact fun x hx => okD_mono n m (by omega) x (h x hx)
    | dict kvs => rw [okD_dic] at h; cases h
    | _ => simp

theorem ReadsAll.at_ {h : Heap} : ∀ {vs : List Value} {ds : List D} {as : List Addr}, ReadsAll h vs ds as → ∀ (j : Nat) (h1 : j < vs.length) (h2 : j < ds.length), ∃ bs, Reads h vs[j] ds[j] bs
  | _, _, _, .nil, j, h1, _ => absurd h1 (Nat.not_lt_zero _)
  | _, _, _, .cons r rs, 0, _, _ => ⟨_, r⟩
  | _, _, _, .cons r rs, j + 1, h1, h2 => ReadsAll.at_ rs j (Nat.lt_of_succ_lt_succ h1) (Nat.lt_of_succ_lt_succ h2)
theorem ReadsAll.len {h : Heap} : ∀ {vs : List Value} {ds : List D} {as : List Addr}, ReadsAll h vs ds as → vs.length = ds.length
  | _, _, _, .nil => rfl
  | _, _, _, .cons _ rs => by simp [ReadsAll.len rs]

/-- what a value reads off is one -/
theorem reads_one {h : Heap} : ∀ (n : Nat) (d e : D) (v : Value) (as bs : List Addr), okD n d = true → Reads h v d as → Reads h v e bs → d = e
  | n, .none, e, v, as, bs, _, r, q => by cases r; cases q; rfl
  | n, .bool b, e, v, as, bs, _, r, q => by cases r; cases q; rfl
  | n, .int b, e, v, as, bs, _, r, q => by cases r; cases q; rfl
  | n, .str b, e, v, as, bs, _, r, q => by cases r; cases q; rfl
  | n + 1, .tuple xs, e, v, as, bs, hk, r, q => by
    have hk : xs.all (okD n) = true := hk
    rw [List.all_eq_true] at hk
    cases r with
    | tuple a1 a2 a3 a4 =>
      cases q with
      | tuple b1 b2 b3 b4 =>
        rw [a1] at b1; cases b1
        rw [a3] at b3; cases b3
        congr 1
        have l1 := ReadsAll.len a4
        have l2 := ReadsAll.len b4
        refine List.ext_getElem (by omega) fun j j1 j2 => ?_
        obtain ⟨_, q1⟩ := ReadsAll.at_ a4 j (by omega) j1
        obtain ⟨_, q2⟩ := ReadsAll.at_ b4 j (by omega) j2
        exact reads_one n _ _ _ _ _ (hk _ (List.getElem_mem _)) q1 q2
      | list b1 b2 b3 b4 => rw [a1] at b1; cases b1; rw [a2] at b2; exact absurd (Value.type.inj b2) (by decide)
      | dict b1 b2 b3 b4 => rw [a1] at b1; cases b1; rw [a2] at b2; exact absurd (Value.type.inj b2) (by decide)
  | n + 1, .list xs, e, v, as, bs, hk, r, q => by
    have hk : xs.all (okD n) = true := hk
    rw [List.all_eq_true] at hk
    cases r with
    | list a1 a2 a3 a4 =>
      cases q with
      | list b1 b2 b3 b4 =>
        rw [a1] at b1; cases b1
        rw [a3] at b3; cases b3
        congr 1
        have l1 := ReadsAll.len a4
        have l2 := ReadsAll.len b4
        refine List.ext_getElem (by omega) fun j j1 j2 => ?_
        obtain ⟨_, q1⟩ := ReadsAll.at_ a4 j (by omega) j1
        obtain ⟨_, q2⟩ := ReadsAll.at_ b4 j (by omega) j2
        exact reads_one n _ _ _ _ _ (hk _ (List.getElem_mem _)) q1 q2
      | tuple b1 b2 b3 b4 => rw [a1] at b1; cases b1; rw [a2] at b2; exact absurd (Value.type.inj b2) (by decide)
      | dict b1 b2 b3 b4 => rw [a1] at b1; cases b1; rw [a2] at b2; exact absurd (Value.type.inj b2) (by decide)
  | 0, .tuple _, _, _, _, _, hk, _, _ => by cases hk
  | 0, .list _, _, _, _, _, hk, _, _ => by cases hk
  | n, .dict _, _, _, _, _, hk, _, _ => by rw [okD_dic] at hk; cases hk

theorem eqvAll_rfl_of {xs : List D} (h : ∀ x ∈ xs, PyData.eqv x x = true) : PyData.eqvAll xs xs = true := by
  induction xs with
  | nil => rfl
  | cons x xs ih => rw [PyData.eqvAll, h x List.mem_cons_self, ih fun y hy => h y (List.mem_cons_of_mem _ hy)]; rfl
theorem eqv_rfl : ∀ (n : Nat) (d : D), okD n d = true → PyData.eqv d d = true
  | _, .none, _ => rfl
  | _, .bool b, _ => by simp [PyData.eqv]
  | _, .int b, _ => by simp [PyData.eqv]
  | _, .str b, _ => by simp [PyData.eqv]
  | n + 1, .tuple xs, h => by
    rw [okD_tup, List.all_eq_true] at h
    rw [PyData.eqv]; exact eqvAll_rfl_of fun x hx => eqv_rfl n x (h x hx)
  | n + 1, .list xs, h => by
    rw [okD_lst, List.all_eq_true] at h
    rw [PyData.eqv]; exact eqvAll_rfl_of fun x hx => eqv_rfl n x (h x hx)
  | 0, .tuple _, h => by cases h
  | 0, .list _, h => by cases h
  | n, .dict _, h => by rw [okD_dic] at h; cases h

/-- the items of two sequences, one against the other -/
theorem items_eq {A : Around} {s : Shared} {xs ys : List D} {vs vs' : Array Value} {as bs : List Addr} (h4 : ReadsAll s.heap vs.toList xs as) (k4 : ReadsAll s.heap vs'.toList ys bs)
    (H : ∀ (x y : D) (u v : Value) (cs ds : List Addr), x ∈ xs → y ∈ ys → Reads s.heap u x cs → Reads s.heap v y ds → EqAt A s u v (PyData.eqv x y)) :
    ∀ j (j1 : j < vs.size) (j2 : j < vs'.size), EqAt A s vs[j] vs'[j] (pairEq xs ys j) := fun j j1 j2 => by
  have l1 := ReadsAll.len h4
  have l2 := ReadsAll.len k4
  simp only [Array.length_toList] at l1 l2
  obtain ⟨_, q1⟩ := ReadsAll.at_ h4 j (by simpa using j1) (by omega)
  obtain ⟨_, q2⟩ := ReadsAll.at_ k4 j (by simpa using j2) (by omega)
  have := H _ _ _ _ _ _ (List.getElem_mem (l := xs) (by omega : j < xs.length)) (List.getElem_mem (l := ys) (by omega : j < ys.length)) q1 q2
  unfold pairEq
  rw [List.getD_eq_getElem?_getD, List.getD_eq_getElem?_getD, List.getElem?_eq_getElem (by omega), List.getElem?_eq_getElem (by omega)]
  simpa using this


theorem flat_EqAt {da db : D} {A : Around} {s : Shared} {a b : Value} {as bs : List Addr} (ra : Reads s.heap a da as) (rb : Reads s.heap b db bs) (ha : okD 0 da = true) (hb : ∀ kvs, db ≠ .dict kvs) (hu : A.units < cLine) :
    EqAt A s a b (PyData.eqv da db) := by
  cases ra with
  | none =>
    cases rb with
    | none => exact EqAt.same _
    | bool y => exact EqAt.none_bool y
    | int y y1 => exact EqAt.none_int y y1
    | str y y1 => exact EqAt.none_str y y1
    | list k1 k2 k3 k4 => exact EqAt.none_list ⟨_, k1, k2, _, k3⟩ hu
    | tuple k1 k2 k3 k4 => exact EqAt.none_tuple ⟨_, k1, k2, _, k3⟩ hu
    | dict => exact absurd rfl (hb _)
  | bool x =>
    cases rb with
    | none => exact EqAt.bool_none x
    | bool y => exact EqAt.bool_bool x y
    | int y y1 => exact EqAt.bool_int x y y1
    | str y y1 => exact EqAt.bool_str x y y1
    | list k1 k2 k3 k4 => exact EqAt.bool_list x ⟨_, k1, k2, _, k3⟩ hu
    | tuple k1 k2 k3 k4 => exact EqAt.bool_tuple x ⟨_, k1, k2, _, k3⟩ hu
    | dict => exact absurd rfl (hb _)
  | int x x1 =>
    cases rb with
    | none => exact EqAt.int_none x x1
    | bool y => exact EqAt.int_bool x x1 y
    | int y y1 => exact EqAt.int_int x x1 y y1
    | str y y1 => exact EqAt.int_str x x1 y y1
    | list k1 k2 k3 k4 => exact EqAt.int_list x x1 ⟨_, k1, k2, _, k3⟩ hu
    | tuple k1 k2 k3 k4 => exact EqAt.int_tuple x x1 ⟨_, k1, k2, _, k3⟩ hu
    | dict => exact absurd rfl (hb _)
  | str x x1 =>
    cases rb with
    | none => exact EqAt.str_none x x1
    | bool y => exact EqAt.str_bool x x1 y
    | int y y1 => exact EqAt.str_int x x1 y y1
    | str y y1 => exact EqAt.str_str x x1 y y1
    | list k1 k2 k3 k4 => exact EqAt.str_list x x1 ⟨_, k1, k2, _, k3⟩ hu
    | tuple k1 k2 k3 k4 => exact EqAt.str_tuple x x1 ⟨_, k1, k2, _, k3⟩ hu
    | dict => exact absurd rfl (hb _)
  | list => cases ha
  | tuple => cases ha
  | dict => cases ha
theorem list_EqAt {xs : List D} {db : D} {A : Around} {s : Shared} {l : Addr} {vs : Array Value} {b : Value} {bs : List Addr} (hl : s.heap.IsList l vs) (rb : Reads s.heap b db bs) (hb : okD 0 db = true) (hu : A.units < cLine) :
    EqAt A s (.ref l) b (PyData.eqv (.list xs) db) := by
  cases rb with
  | none => exact EqAt.list_none hl hu
  | bool y => exact EqAt.list_bool y hl hu
  | int y y1 => exact EqAt.list_int y y1 hl hu
  | str y y1 => exact EqAt.list_str y y1 hl hu
  | list => cases hb
  | tuple => cases hb
  | dict => cases hb
theorem tuple_EqAt {xs : List D} {db : D} {A : Around} {s : Shared} {l : Addr} {vs : Array Value} {b : Value} {bs : List Addr} (hl : s.heap.IsTuple l vs) (rb : Reads s.heap b db bs) (hb : okD 0 db = true) (hu : A.units < cLine) :
    EqAt A s (.ref l) b (PyData.eqv (.tuple xs) db) := by
  cases rb with
  | none => exact EqAt.tuple_none hl hu
  | bool y => exact EqAt.tuple_bool y hl hu
  | int y y1 => exact EqAt.tuple_int y y1 hl hu
  | str y y1 => exact EqAt.tuple_str y y1 hl hu
  | list => cases hb
  | tuple => cases hb
  | dict => cases hb
theorem flat_RcAt {da db : D} {A : Around} {s : Shared} {a b : Value} {as bs : List Addr} (ra : Reads s.heap a da as) (rb : Reads s.heap b db bs) (ha : okD 0 da = true) (hb : ∀ kvs, db ≠ .dict kvs) (hu : A.units < cLine) :
    RcAt A s a b (PyData.eqv da db) := by
  cases ra with
  | none =>
    cases rb with
    | none => exact RcAt.none_none
    | bool y => exact RcAt.none_bool y
    | int y y1 => exact RcAt.none_int y y1
    | str y y1 => exact RcAt.none_str y y1
    | list k1 k2 k3 k4 => exact RcAt.none_list ⟨_, k1, k2, _, k3⟩ hu
    | tuple k1 k2 k3 k4 => exact RcAt.none_tuple ⟨_, k1, k2, _, k3⟩ hu
    | dict => exact absurd rfl (hb _)
  | bool x =>
    cases rb with
    | none => exact RcAt.bool_none x
    | bool y => exact RcAt.bool_bool x y
    | int y y1 => exact RcAt.bool_int x y y1
    | str y y1 => exact RcAt.bool_str x y y1
    | list k1 k2 k3 k4 => exact RcAt.bool_list x ⟨_, k1, k2, _, k3⟩ hu
    | tuple k1 k2 k3 k4 => exact RcAt.bool_tuple x ⟨_, k1, k2, _, k3⟩ hu
    | dict => exact absurd rfl (hb _)
  | int x x1 =>
    cases rb with
    | none => exact RcAt.int_none x x1
    | bool y => exact RcAt.int_bool x x1 y
    | int y y1 => exact RcAt.int_int x x1 y y1
    | str y y1 => exact RcAt.int_str x x1 y y1
    | list k1 k2 k3 k4 => exact RcAt.int_list x x1 ⟨_, k1, k2, _, k3⟩ hu
    | tuple k1 k2 k3 k4 => exact RcAt.int_tuple x x1 ⟨_, k1, k2, _, k3⟩ hu
    | dict => exact absurd rfl (hb _)
  | str x x1 =>
    cases rb with
    | none => exact RcAt.str_none x x1
    | bool y => exact RcAt.str_bool x x1 y
    | int y y1 => exact RcAt.str_int x x1 y y1
    | str y y1 => exact RcAt.str_str x x1 y y1
    | list k1 k2 k3 k4 => exact RcAt.str_list x x1 ⟨_, k1, k2, _, k3⟩ hu
    | tuple k1 k2 k3 k4 => exact RcAt.str_tuple x x1 ⟨_, k1, k2, _, k3⟩ hu
    | dict => exact absurd rfl (hb _)
  | list => cases ha
  | tuple => cases ha
  | dict => cases ha
theorem list_RcAt {xs : List D} {db : D} {A : Around} {s : Shared} {l : Addr} {vs : Array Value} {b : Value} {bs : List Addr} (hl : s.heap.IsList l vs) (rb : Reads s.heap b db bs) (hb : okD 0 db = true) (hu : A.units < cLine) :
    RcAt A s (.ref l) b (PyData.eqv (.list xs) db) := by
  cases rb with
  | none => exact RcAt.list_none hl hu
  | bool y => exact RcAt.list_bool y hl hu
  | int y y1 => exact RcAt.list_int y y1 hl hu
  | str y y1 => exact RcAt.list_str y y1 hl hu
  | list => cases hb
  | tuple => cases hb
  | dict => cases hb
theorem tuple_RcAt {xs : List D} {db : D} {A : Around} {s : Shared} {l : Addr} {vs : Array Value} {b : Value} {bs : List Addr} (hl : s.heap.IsTuple l vs) (rb : Reads s.heap b db bs) (hb : okD 0 db = true) (hu : A.units < cLine) :
    RcAt A s (.ref l) b (PyData.eqv (.tuple xs) db) := by
  cases rb with
  | none => exact RcAt.tuple_none hl hu
  | bool y => exact RcAt.tuple_bool y hl hu
  | int y y1 => exact RcAt.tuple_int y y1 hl hu
  | str y y1 => exact RcAt.tuple_str y y1 hl hu
  | list => cases hb
  | tuple => cases hb
  | dict => cases hb
theorem flat_RcNeAt {da db : D} {A : Around} {s : Shared} {a b : Value} {as bs : List Addr} (ra : Reads s.heap a da as) (rb : Reads s.heap b db bs) (ha : okD 0 da = true) (hb : ∀ kvs, db ≠ .dict kvs) (hu : A.units < cLine) :
    RcNeAt A s a b (!PyData.eqv da db) := by
  cases ra with
  | none =>
    cases rb with
    | none => exact RcNeAt.none_none
    | bool y => exact RcNeAt.none_bool y
    | int y y1 => exact RcNeAt.none_int y y1
    | str y y1 => exact RcNeAt.none_str y y1
    | list k1 k2 k3 k4 => exact RcNeAt.none_list ⟨_, k1, k2, _, k3⟩ hu
    | tuple k1 k2 k3 k4 => exact RcNeAt.none_tuple ⟨_, k1, k2, _, k3⟩ hu
    | dict => exact absurd rfl (hb _)
  | bool x =>
    cases rb with
    | none => exact RcNeAt.bool_none x
    | bool y => exact RcNeAt.bool_bool x y
    | int y y1 => exact RcNeAt.bool_int x y y1
    | str y y1 => exact RcNeAt.bool_str x y y1
    | list k1 k2 k3 k4 => exact RcNeAt.bool_list x ⟨_, k1, k2, _, k3⟩ hu
    | tuple k1 k2 k3 k4 => exact RcNeAt.bool_tuple x ⟨_, k1, k2, _, k3⟩ hu
    | dict => exact absurd rfl (hb _)
  | int x x1 =>
    cases rb with
    | none => exact RcNeAt.int_none x x1
    | bool y => exact RcNeAt.int_bool x x1 y
    | int y y1 => exact RcNeAt.int_int x x1 y y1
    | str y y1 => exact RcNeAt.int_str x x1 y y1
    | list k1 k2 k3 k4 => exact RcNeAt.int_list x x1 ⟨_, k1, k2, _, k3⟩ hu
    | tuple k1 k2 k3 k4 => exact RcNeAt.int_tuple x x1 ⟨_, k1, k2, _, k3⟩ hu
    | dict => exact absurd rfl (hb _)
  | str x x1 =>
    cases rb with
    | none => exact RcNeAt.str_none x x1
    | bool y => exact RcNeAt.str_bool x x1 y
    | int y y1 => exact RcNeAt.str_int x x1 y y1
    | str y y1 => exact RcNeAt.str_str x x1 y y1
    | list k1 k2 k3 k4 => exact RcNeAt.str_list x x1 ⟨_, k1, k2, _, k3⟩ hu
    | tuple k1 k2 k3 k4 => exact RcNeAt.str_tuple x x1 ⟨_, k1, k2, _, k3⟩ hu
    | dict => exact absurd rfl (hb _)
  | list => cases ha
  | tuple => cases ha
  | dict => cases ha
theorem list_RcNeAt {xs : List D} {db : D} {A : Around} {s : Shared} {l : Addr} {vs : Array Value} {b : Value} {bs : List Addr} (hl : s.heap.IsList l vs) (rb : Reads s.heap b db bs) (hb : okD 0 db = true) (hu : A.units < cLine) :
    RcNeAt A s (.ref l) b (!PyData.eqv (.list xs) db) := by
  cases rb with
  | none => exact RcNeAt.list_none hl hu
  | bool y => exact RcNeAt.list_bool y hl hu
  | int y y1 => exact RcNeAt.list_int y y1 hl hu
  | str y y1 => exact RcNeAt.list_str y y1 hl hu
  | list => cases hb
  | tuple => cases hb
  | dict => cases hb
theorem tuple_RcNeAt {xs : List D} {db : D} {A : Around} {s : Shared} {l : Addr} {vs : Array Value} {b : Value} {bs : List Addr} (hl : s.heap.IsTuple l vs) (rb : Reads s.heap b db bs) (hb : okD 0 db = true) (hu : A.units < cLine) :
    RcNeAt A s (.ref l) b (!PyData.eqv (.tuple xs) db) := by
  cases rb with
  | none => exact RcNeAt.tuple_none hl hu
  | bool y => exact RcNeAt.tuple_bool y hl hu
  | int y y1 => exact RcNeAt.tuple_int y y1 hl hu
  | str y y1 => exact RcNeAt.tuple_str y y1 hl hu
  | list => cases hb
  | tuple => cases hb
  | dict => cases hb

theorem flat_or (n : Nat) (d : D) (h : okD n d = true) : okD 0 d = true ∨ (∃ m xs, n = m + 1 ∧ d = .tuple xs) ∨ ∃ m xs, n = m + 1 ∧ d = .list xs := by
  cases d with
  | tuple xs => cases n with
    | zero => cases h
    | succ m => exact .inr (.inl ⟨m, xs, rfl, rfl⟩)
  | list xs => cases n with
    | zero => cases h
    | succ m => exact .inr (.inr ⟨m, xs, rfl, rfl⟩)
  | dict kvs => rw [okD_dic] at h; cases h
  | _ => exact .inl rfl
theorem ok_nodic {n : Nat} {d : D} (h : okD n d = true) : ∀ kvs, d ≠ .dict kvs := fun kvs e => by rw [e, okD_dic] at h; cases h


set_option maxHeartbeats 1000000 in
theorem eqAt_ok : ∀ (n : Nat) (da db : D) (A : Around) (s : Shared) (a b : Value) (as bs : List Addr), Reads s.heap a da as → Reads s.heap b db bs → okD n da = true → okD n db = true → A.units + n < cLine →
    EqAt A s a b (PyData.eqv da db) := by
  intro n
  induction n with
  | zero =>
    intro da db A s a b as bs ra rb ha hb hu
    exact flat_EqAt ra rb ha (ok_nodic hb) hu
  | succ n ih =>
    intro da db A s a b as bs ra rb ha hb hu
    have hu0 : A.units < cLine := by omega
    have hu1 : A.in1.units + n < cLine := by show A.units + 1 + n < cLine; omega
    rcases flat_or _ _ ha with fa | ⟨m, xs, em, rfl⟩ | ⟨m, xs, em, rfl⟩
    · exact flat_EqAt ra rb fa (ok_nodic hb) hu0
    · cases em
      cases ra with
      | @tuple l o vs m _ as1 h1 h2 h3 h4 =>
      have hl : s.heap.IsTuple l vs := ⟨_, h1, h2, _, h3⟩
      rcases flat_or _ _ hb with fb | ⟨m, ys, em, rfl⟩ | ⟨m, ys, em, rfl⟩
      · exact tuple_EqAt hl rb fb hu0
      · cases em
        cases rb with
        | @tuple l' o' vs' m' _ bs1 k1 k2 k3 k4 =>
        have hl' : s.heap.IsTuple l' vs' := ⟨_, k1, k2, _, k3⟩
        have n1 := ReadsAll.len h4
        have n2 := ReadsAll.len k4
        simp only [Array.length_toList] at n1 n2
        show EqAt A s (.ref l) (.ref l') (PyData.eqvAll xs ys)
        have ha' : xs.all (okD n) = true := ha
        have hb' : ys.all (okD n) = true := hb
        rw [List.all_eq_true] at ha' hb'
        by_cases hll : l = l'
        · subst hll
          have e := reads_one (n + 1) (.tuple xs) (.tuple ys) _ _ _ ha (.tuple h1 h2 h3 h4) (.tuple k1 k2 k3 k4)
          cases e
          rw [eqvAll_rfl_of fun x hx => eqv_rfl n x (ha' x hx)]
          exact EqAt.same _
        · rw [← eqvAll_eq xs ys, ← n1, ← n2]
          exact EqAt.of_refs hll (RcAt.tuples hl hl' hu0 (items_eq h4 k4 fun x y u v cs ds hx hy q1 q2 => ih x y _ _ _ _ _ _ q1 q2 (ha' x hx) (hb' y hy) hu1))
      · cases em
        cases rb with
        | list k1 k2 k3 k4 => exact EqAt.tuple_list hl ⟨_, k1, k2, _, k3⟩ hu0
    · cases em
      cases ra with
      | @list l o vs m _ as1 h1 h2 h3 h4 =>
      have hl : s.heap.IsList l vs := ⟨_, h1, h2, _, h3⟩
      rcases flat_or _ _ hb with fb | ⟨m, ys, em, rfl⟩ | ⟨m, ys, em, rfl⟩
      · exact list_EqAt hl rb fb hu0
      · cases em
        cases rb with
        | tuple k1 k2 k3 k4 => exact EqAt.list_tuple hl ⟨_, k1, k2, _, k3⟩ hu0
      · cases em
        cases rb with
        | @list l' o' vs' m' _ bs1 k1 k2 k3 k4 =>
        have hl' : s.heap.IsList l' vs' := ⟨_, k1, k2, _, k3⟩
        have n1 := ReadsAll.len h4
        have n2 := ReadsAll.len k4
        simp only [Array.length_toList] at n1 n2
        show EqAt A s (.ref l) (.ref l') (PyData.eqvAll xs ys)
        have ha' : xs.all (okD n) = true := ha
        have hb' : ys.all (okD n) = true := hb
        rw [List.all_eq_true] at ha' hb'
        by_cases hll : l = l'
        · subst hll
          have e := reads_one (n + 1) (.list xs) (.list ys) _ _ _ ha (.list h1 h2 h3 h4) (.list k1 k2 k3 k4)
          cases e
          rw [eqvAll_rfl_of fun x hx => eqv_rfl n x (ha' x hx)]
          exact EqAt.same _
        · by_cases hsz : vs.size = vs'.size
          · rw [← eqvAll_same_length (by omega : xs.length = ys.length), ← n1]
            exact EqAt.of_refs hll (RcAt.lists hl hl' hsz hu0 (items_eq h4 k4 fun x y u v cs ds hx hy q1 q2 => ih x y _ _ _ _ _ _ q1 q2 (ha' x hx) (hb' y hy) hu1))
          · rw [eqvAll_other_length (by omega : xs.length ≠ ys.length)]
            exact EqAt.of_refs hll (RcAt.lists_lengths hl hl' (by simpa using hsz) hu0)


set_option maxHeartbeats 1000000 in
theorem rcAt_ok (n : Nat) (da db : D) (A : Around) (s : Shared) (a b : Value) (as bs : List Addr) (ra : Reads s.heap a da as) (rb : Reads s.heap b db bs) (ha : okD n da = true) (hb : okD n db = true) (hu : A.units + n < cLine) :
    RcAt A s a b (PyData.eqv da db) := by
  have hu0 : A.units < cLine := by omega
  rcases flat_or _ _ ha with fa | ⟨m, xs, rfl, rfl⟩ | ⟨m, xs, rfl, rfl⟩
  · exact flat_RcAt ra rb fa (ok_nodic hb) hu0
  · have hu1 : A.in1.units + m < cLine := by show A.units + 1 + m < cLine; omega
    cases ra with
    | @tuple l o vs k _ as1 h1 h2 h3 h4 =>
    have hl : s.heap.IsTuple l vs := ⟨_, h1, h2, _, h3⟩
    rcases flat_or _ _ hb with fb | ⟨m2, ys, em, rfl⟩ | ⟨m2, ys, em, rfl⟩
    · exact tuple_RcAt hl rb fb hu0
    · cases rb with
      | @tuple l' o' vs' m' _ bs1 k1 k2 k3 k4 =>
      have hl' : s.heap.IsTuple l' vs' := ⟨_, k1, k2, _, k3⟩
      have n1 := ReadsAll.len h4
      have n2 := ReadsAll.len k4
      simp only [Array.length_toList] at n1 n2
      show RcAt A s (.ref l) (.ref l') (PyData.eqvAll xs ys)
      have ha' : xs.all (okD m) = true := ha
      have hb' : ys.all (okD m) = true := hb
      rw [List.all_eq_true] at ha' hb'
      rw [← eqvAll_eq xs ys, ← n1, ← n2]
      exact RcAt.tuples hl hl' hu0 (items_eq h4 k4 fun x y u v cs ds hx hy q1 q2 => eqAt_ok m x y _ _ _ _ _ _ q1 q2 (ha' x hx) (hb' y hy) hu1)
    · cases rb with
      | list k1 k2 k3 k4 => exact RcAt.tuple_list hl ⟨_, k1, k2, _, k3⟩ hu0
  · have hu1 : A.in1.units + m < cLine := by show A.units + 1 + m < cLine; omega
    cases ra with
    | @list l o vs k _ as1 h1 h2 h3 h4 =>
    have hl : s.heap.IsList l vs := ⟨_, h1, h2, _, h3⟩
    rcases flat_or _ _ hb with fb | ⟨m2, ys, em, rfl⟩ | ⟨m2, ys, em, rfl⟩
    · exact list_RcAt hl rb fb hu0
    · cases rb with
      | tuple k1 k2 k3 k4 => exact RcAt.list_tuple hl ⟨_, k1, k2, _, k3⟩ hu0
    · cases rb with
      | @list l' o' vs' m' _ bs1 k1 k2 k3 k4 =>
      have hl' : s.heap.IsList l' vs' := ⟨_, k1, k2, _, k3⟩
      have n1 := ReadsAll.len h4
      have n2 := ReadsAll.len k4
      simp only [Array.length_toList] at n1 n2
      show RcAt A s (.ref l) (.ref l') (PyData.eqvAll xs ys)
      have ha' : xs.all (okD m) = true := ha
      have hb' : ys.all (okD m) = true := hb
      rw [List.all_eq_true] at ha' hb'
      have he := items_eq h4 k4 fun x y u v cs ds hx hy q1 q2 => eqAt_ok m x y A.in1 s u v cs ds q1 q2 (ha' x hx) (hb' y hy) hu1
      by_cases hsz : vs.size = vs'.size
      · rw [← eqvAll_same_length (by omega : xs.length = ys.length), ← n1]
        exact RcAt.lists hl hl' hsz hu0 he
      · rw [eqvAll_other_length (by omega : xs.length ≠ ys.length)]
        exact RcAt.lists_lengths hl hl' (by simpa using hsz) hu0


set_option maxHeartbeats 1000000 in
theorem rcNeAt_ok (n : Nat) (da db : D) (A : Around) (s : Shared) (a b : Value) (as bs : List Addr) (ra : Reads s.heap a da as) (rb : Reads s.heap b db bs) (ha : okD n da = true) (hb : okD n db = true) (hu : A.units + n < cLine) :
    RcNeAt A s a b (!PyData.eqv da db) := by
  have hu0 : A.units < cLine := by omega
  rcases flat_or _ _ ha with fa | ⟨m, xs, rfl, rfl⟩ | ⟨m, xs, rfl, rfl⟩
  · exact flat_RcNeAt ra rb fa (ok_nodic hb) hu0
  · have hu1 : A.in1.units + m < cLine := by show A.units + 1 + m < cLine; omega
    cases ra with
    | @tuple l o vs k _ as1 h1 h2 h3 h4 =>
    have hl : s.heap.IsTuple l vs := ⟨_, h1, h2, _, h3⟩
    rcases flat_or _ _ hb with fb | ⟨m2, ys, em, rfl⟩ | ⟨m2, ys, em, rfl⟩
    · exact tuple_RcNeAt hl rb fb hu0
    · cases rb with
      | @tuple l' o' vs' m' _ bs1 k1 k2 k3 k4 =>
      have hl' : s.heap.IsTuple l' vs' := ⟨_, k1, k2, _, k3⟩
      have n1 := ReadsAll.len h4
      have n2 := ReadsAll.len k4
      simp only [Array.length_toList] at n1 n2
      show RcNeAt A s (.ref l) (.ref l') (!PyData.eqvAll xs ys)
      have ha' : xs.all (okD m) = true := ha
      have hb' : ys.all (okD m) = true := hb
      rw [List.all_eq_true] at ha' hb'
      rw [← eqvAll_eq xs ys, ← n1, ← n2]
      exact RcNeAt.tuples hl hl' hu0 (items_eq h4 k4 fun x y u v cs ds hx hy q1 q2 => eqAt_ok m x y _ _ _ _ _ _ q1 q2 (ha' x hx) (hb' y hy) hu1)
    · cases rb with
      | list k1 k2 k3 k4 => exact RcNeAt.tuple_list hl ⟨_, k1, k2, _, k3⟩ hu0
  · have hu1 : A.in1.units + m < cLine := by show A.units + 1 + m < cLine; omega
    cases ra with
    | @list l o vs k _ as1 h1 h2 h3 h4 =>
    have hl : s.heap.IsList l vs := ⟨_, h1, h2, _, h3⟩
    rcases flat_or _ _ hb with fb | ⟨m2, ys, em, rfl⟩ | ⟨m2, ys, em, rfl⟩
    · exact list_RcNeAt hl rb fb hu0
    · cases rb with
      | tuple k1 k2 k3 k4 => exact RcNeAt.list_tuple hl ⟨_, k1, k2, _, k3⟩ hu0
    · cases rb with
      | @list l' o' vs' m' _ bs1 k1 k2 k3 k4 =>
      have hl' : s.heap.IsList l' vs' := ⟨_, k1, k2, _, k3⟩
      have n1 := ReadsAll.len h4
      have n2 := ReadsAll.len k4
      simp only [Array.length_toList] at n1 n2
      show RcNeAt A s (.ref l) (.ref l') (!PyData.eqvAll xs ys)
      have ha' : xs.all (okD m) = true := ha
      have hb' : ys.all (okD m) = true := hb
      rw [List.all_eq_true] at ha' hb'
      have he := items_eq h4 k4 fun x y u v cs ds hx hy q1 q2 => eqAt_ok m x y A.in1 s u v cs ds q1 q2 (ha' x hx) (hb' y hy) hu1
      by_cases hsz : vs.size = vs'.size
      · rw [← eqvAll_same_length (by omega : xs.length = ys.length), ← n1]
        exact RcNeAt.lists hl hl' hsz hu0 he
      · rw [eqvAll_other_length (by omega : xs.length ≠ ys.length)]
        exact RcNeAt.lists_lengths hl hl' (by simpa using hsz) hu0

end Hm
/-! Hm2: what data read off the heap; slots; the judgement for expressions -/
namespace Hm
open PySem L2 PySem.SeqAt

section
variable {X : Cx} {pins : List (Addr × Obj)} {σ : St} {H : Hp} {s : Shared}
mutual
theorem Da.reads (I : Inv X pins σ H s) : ∀ {v : V} {d : D}, Da X.K X.w H v d → ∀ {u : Value}, RelV v u → ∃ as, Reads s.heap u d as
  | _, _, .non, _, r => by cases r; exact ⟨_, .none⟩
  | _, _, .bl b, _, r => by cases r; exact ⟨_, .bool b⟩
  | _, _, .int i, _, r => by obtain ⟨t, rfl⟩ := r; exact ⟨_, .int i t⟩
  | _, _, .str x, _, r => by obtain ⟨t, rfl⟩ := r; exact ⟨_, .str x t⟩
  | _, _, .tup h a, _, r => by
    cases r
    obtain ⟨its, rv, ⟨o, ho, hc, n, hd⟩, _⟩ := I.tuple h
    obtain ⟨as, q⟩ := DaL.reads I a rv
    exact ⟨_, .tuple ho hc hd q⟩
  | _, _, .lst h a, _, r => by
    cases r
    obtain ⟨its, rv, ⟨o, n, ho, hc, _, hd⟩, _⟩ := I.list (.inl (.inr ⟨_, h⟩))
    obtain ⟨as, q⟩ := DaL.reads I a rv
    exact ⟨_, .list ho hc hd q⟩
  | _, _, .dic h a n, _, r => by
    cases r
    obtain ⟨_, ⟨_, _, o, ep, ho, hc, hd⟩, _⟩ := I.hok _ _ h
    obtain ⟨as, bs, q1, q2⟩ := DaE.reads I a
    exact ⟨_, .dict ho hc.1 hd (by simpa using q1) (by simpa using q2)⟩
theorem DaL.reads (I : Inv X pins σ H s) : ∀ {vs : List V} {ds : List D}, DaL X.K X.w H vs ds → ∀ {us : List Value}, Vals vs us → ∃ as, ReadsAll s.heap us ds as
  | _, _, .nil, _, r => by cases r; exact ⟨_, .nil⟩
  | _, _, .cons h a, _, r => by
    cases r with
    | cons r1 r2 =>
      obtain ⟨as, q1⟩ := Da.reads I h r1
      obtain ⟨bs, q2⟩ := DaL.reads I a r2
      exact ⟨_, .cons q1 q2⟩
theorem DaE.reads (I : Inv X pins σ H s) : ∀ {es : List DictEntry} {kvs : List (D × D)}, DaE X.K X.w H es kvs → ∃ as bs, ReadsAll s.heap (es.map (·.key)) (kvs.map (·.1)) as ∧ ReadsAll s.heap (es.map (·.val)) (kvs.map (·.2)) bs
  | _, _, .nil => ⟨_, _, .nil, .nil⟩
  | _, _, .cons r1 h1 r2 h2 n a => by
    obtain ⟨as, q1⟩ := Da.reads I h1 r1
    obtain ⟨bs, q2⟩ := Da.reads I h2 r2
    obtain ⟨cs, ds, q3, q4⟩ := DaE.reads I a
    exact ⟨_, _, .cons q1 q3, .cons q2 q4⟩
end
theorem Sn.reads (I : Inv X pins σ H s) {v : V} {d : D} (h : Sn X.K X.w H v d) {u : Value} (r : RelV v u) : ∃ as, Reads s.heap u d as := by
  cases h with
  | da h => exact h.reads I r
  | lst h a =>
    cases r
    obtain ⟨its, rv, ⟨o, n, ho, hc, _, hd⟩, _⟩ := I.list (.inl (.inl h))
    obtain ⟨as, q⟩ := DaL.reads I a rv
    exact ⟨_, .list ho hc hd q⟩
  | dic h a n =>
    cases r
    obtain ⟨⟨_, _, o, ep, ho, hc, hd⟩, _⟩ := I.hok _ _ h
    obtain ⟨as, bs, q1, q2⟩ := DaE.reads I a
    exact ⟨_, .dict ho hc.1 hd (by simpa using q1) (by simpa using q2)⟩
mutual
/-- a key at the heap -/
theorem Reads.nested {h : Heap} : ∀ (d : D) (u : Value) (as : List Addr) (n : NestedKey), Reads h u d as → nk d = some n → NestedIs h n u
  | .none, _, _, _, r, e => by cases r; cases e; exact .none
  | .bool b, _, _, _, r, e => by cases r; cases e; exact .bool rfl
  | .int i, _, _, _, r, e => by cases r; cases e; exact .int _ _
  | .str x, _, _, _, r, e => by cases r; cases e; exact .text _ _
  | .tuple xs, _, _, _, r, e => by
    cases r with
    | tuple ho hc hd ha =>
      cases e1 : nks xs with
      | none => rw [nk, e1] at e; cases e
      | some ks =>
        rw [nk, e1] at e
        cases e
        exact .tup ho hc hd (Reads.nesteds xs _ _ _ ha e1)
  | .list _, _, _, _, _, e => by cases e
  | .dict _, _, _, _, _, e => by cases e
theorem Reads.nesteds {h : Heap} : ∀ (ds : List D) (us : List Value) (as : List Addr) (ns : List NestedKey), ReadsAll h us ds as → nks ds = some ns → NestedAll h ns us
  | [], _, _, _, r, e => by cases r; cases e; exact .nil
  | d :: ds, _, _, _, r, e => by
    cases r with
    | cons r1 r2 =>
      rw [nks] at e
      cases e1 : nk d with
      | none => rw [e1] at e; cases e
      | some k =>
        cases e2 : nks ds with
        | none => rw [e1, e2] at e; cases e
        | some ks =>
          rw [e1, e2] at e
          cases e
          exact .cons (Reads.nested d _ _ _ r1 e1) (Reads.nesteds ds _ _ _ r2 e2)
end
theorem Sn.nested (I : Inv X pins σ H s) {v : V} {d : D} (h : Sn X.K X.w H v d) {u : Value} (r : RelV v u) {n : NestedKey} (e : nk d = some n) : NestedIs s.heap n u := by
  obtain ⟨as, q⟩ := h.reads I r
  exact Reads.nested d u as n q e
end

/-! ### results, continued -/
/-- what is wanted of a result -/
def Rk {t : Type} (r : Rs t) (E : Str → Prop) (k : t → Prop) : Prop := match r with
  | .ok x => k x
  | .exc c => E c
  | .bad => False
theorem Rk.bind {a b : Type} {r : Rs a} {f : a → Rs b} {E : Str → Prop} {k : b → Prop} (h : Rk (r >>= f) E k) : Rk r E fun x => Rk (f x) E k := by
  cases r with
  | bad => exact h
  | exc c => exact h
  | ok x => exact h
theorem Rk.mono {a : Type} {r : Rs a} {E E' : Str → Prop} {k k' : a → Prop} (h : Rk r E k) (hE : ∀ c, E c → E' c) (hk : ∀ x, r = .ok x → k x → k' x) : Rk r E' k' := by
  cases r with
  | bad => exact h
  | exc c => exact hE c h
  | ok x => exact hk x rfl h
theorem Rk.ok {a : Type} {r : Rs a} {E : Str → Prop} {k : a → Prop} {x : a} (e : r = .ok x) (h : k x) : Rk r E k := by subst e; exact h
theorem Rk.of {a : Type} {o : Option a} {E : Str → Prop} {k : a → Prop} (h : Rk (Rs.of o) E k) : ∃ x, o = some x ∧ k x := by
  cases o with
  | none => exact h.elim
  | some x => exact ⟨x, rfl, h⟩
theorem Rk.need {b : Bool} {E : Str → Prop} {k : Unit → Prop} (h : Rk (Rs.need b) E k) : b = true ∧ k () := by
  cases b with
  | false => exact h.elim
  | true => exact ⟨rfl, h⟩

/-! ### slots -/
/-- what a hand is -/
structure HandSt where
  name : D
  known : List (D × D)
  waiting : List (D × D)
  greatest : Int
  did : List D
  undone : List D
/-- a hand of the class C stands at a; its own objects are fp -/
def HandAt (K : PySem.W.Frag) (w : World) (C : Addr) (H : Hp) (a : Addr) (st : HandSt) (fp : List Addr) : Prop :=
  ∃ (dx k wt dd un : Addr) (vn : V) (es fs : List DictEntry) (xs ys : List V), fp = [a, dx, k, wt, dd, un] ∧
    H a = some (.ins C dx [("name", vn), ("known", .ref k), ("waiting", .ref wt), ("greatest", .int st.greatest), ("did", .ref dd), ("undone", .ref un)]) ∧ H dx = some (.own a) ∧ Da K w H vn st.name ∧
    H k = some (dicO k es) ∧ DaE K w H es st.known ∧ (st.known.map fun p => keyOf p.1).Nodup ∧
    H wt = some (dicO wt fs) ∧ DaE K w H fs st.waiting ∧ (st.waiting.map fun p => keyOf p.1).Nodup ∧
    H dd = some (.lst xs) ∧ DaL K w H xs st.did ∧ H un = some (.lst ys) ∧ DaL K w H ys st.undone
/-- it stays while its own objects and what never changes stay -/
theorem HandAt.keep {K : PySem.W.Frag} {w : World} {C : Addr} {H H' : Hp} {a : Addr} {st : HandSt} {fp : List Addr} (h : HandAt K w C H a st fp) (hk : ∀ b ∈ fp, ∀ o, H b = some o → H' b = some o) (k : Kp H H') : HandAt K w C H' a st fp := by
  obtain ⟨dx, kn, wt, dd, un, vn, es, fs, xs, ys, rfl, h1, h2, h3, h4, h5, h6, h7, h8, h9, h10, h11, h12, h13⟩ := h
  exact ⟨dx, kn, wt, dd, un, vn, es, fs, xs, ys, rfl, hk _ (by simp) _ h1, hk _ (by simp) _ h2, h3.kp k, hk _ (by simp) _ h4, h5.kp k, h6, hk _ (by simp) _ h7, h8.kp k, h9, hk _ (by simp) _ h10, h11.kp k, hk _ (by simp) _ h12, h13.kp k⟩
theorem HandAt.ex {K : PySem.W.Frag} {w : World} {C : Addr} {H H' : Hp} {a : Addr} {st : HandSt} {fp : List Addr} (h : HandAt K w C H a st fp) (e : Ex H H') : HandAt K w C H' a st fp := h.keep (fun b _ o q => e b o q) e.kp
/-- what a slot holds: nothing known; data; a parameter's snapshot; a list or dict of the def's own; a dict of lists of the def's own -/
inductive Sl where
  | no
  | dat (d : D)
  | par (d : D)
  | own (d : D)
  | own2 (kvs : List (D × List D))
  | hnd (C : Addr) (st : HandSt)
/-- entries whose values are lists at addresses of their own -/
inductive DaM (K : PySem.W.Frag) (w : World) (H : Hp) : List DictEntry → List Addr → List (D × List D) → Prop
  | nil : DaM K w H [] [] []
  | cons {k : V} {u : Value} {b : Addr} {xs : List V} {es : List DictEntry} {bs : List Addr} {d : D} {ds : List D} {kvs : List (D × List D)} {n : NestedKey} : RelV k u → Da K w H k d → H b = some (.lst xs) → DaL K w H xs ds → keyOf d = some n →
      DaM K w H es bs kvs → DaM K w H (⟨n.hash w, u, .ref b⟩ :: es) (b :: bs) ((d, ds) :: kvs)
theorem DaM.ex {K : PySem.W.Frag} {w : World} {H H' : Hp} (e : Ex H H') : ∀ {es : List DictEntry} {bs : List Addr} {kvs : List (D × List D)}, DaM K w H es bs kvs → DaM K w H' es bs kvs
  | _, _, _, .nil => .nil
  | _, _, _, .cons r1 h1 h2 h3 n a => .cons r1 (h1.ex e) (e _ _ h2) (h3.ex e) n (DaM.ex e a)
def slV (K : PySem.W.Frag) (w : World) (H : Hp) : Option V → Sl → Prop
  | _, .no => True
  | some v, .dat d => Da K w H v d
  | some v, .par d => Sn K w H v d
  | some v, .own d => Sn K w H v d
  | some v, .own2 kvs => ∃ a es bs, v = .ref a ∧ H a = some (dicO a es) ∧ DaM K w H es bs kvs ∧ (kvs.map fun p => keyOf p.1).Nodup
  | some v, .hnd C st => ∃ a fp, v = .ref a ∧ HandAt K w C H a st fp
  | none, _ => False
theorem slV.ex {K : PySem.W.Frag} {w : World} {H H' : Hp} (e : Ex H H') {x : Option V} {s : Sl} (h : slV K w H x s) : slV K w H' x s := by
  cases x with
  | none => cases s <;> exact h
  | some v =>
    cases s with
    | no => trivial
    | dat d => exact Da.ex e h
    | par d => exact Sn.ex e h
    | own d => exact Sn.ex e h
    | own2 kvs =>
      obtain ⟨a, es, bs, rfl, h1, h2, h3⟩ := h
      exact ⟨a, es, bs, rfl, e _ _ h1, h2.ex e, h3⟩
    | hnd C st =>
      obtain ⟨a, fp, rfl, h1⟩ := h
      exact ⟨a, fp, rfl, h1.ex e⟩
abbrev Dl := List Sl
def wipeS (d : Dl) : List Nat → Dl
  | [] => d
  | v :: vs => (wipeS d vs).set v .no

/-- how slots and data go together; pseudo slots may follow -/
structure Rl (K : PySem.W.Frag) (w : World) where
  P : St → Hp → Dl → Prop
  ex : ∀ {σ H H' δ}, P σ H δ → Ex H H' → P σ H' δ
  get : ∀ {σ H δ} {i : Nat} {s : Sl}, P σ H δ → i < σ.length → δ[i]? = some s → slV K w H ((σ[i]?).join) s
  set : ∀ {σ H δ} {i : Nat} {v : V} {s : Sl}, P σ H δ → i < σ.length → slV K w H (some v) s → P (σ.set i (some v)) H (δ.set i s)
  unset : ∀ {σ H δ} {i : Nat}, P σ H δ → i < σ.length → P (σ.set i none) H (δ.set i .no)

theorem Rl.wipe {K : PySem.W.Frag} {w : World} (R : Rl K w) {σ : St} {H : Hp} {δ : Dl} : ∀ {vs : List Nat}, R.P σ H δ → (∀ v ∈ vs, v < σ.length) → R.P (L2.wipe σ vs) H (wipeS δ vs)
  | [], p, _ => p
  | v :: vs, p, h => by
    show R.P ((L2.wipe σ vs).set v none) H ((wipeS δ vs).set v .no)
    exact R.unset (R.wipe p fun x hx => h x (List.mem_cons_of_mem _ hx)) (by rw [wipe_length]; exact h v List.mem_cons_self)

/-- the plain relation -/
def plainP (K : PySem.W.Frag) (w : World) (σ : St) (H : Hp) (δ : Dl) : Prop := δ.length = σ.length ∧ ∀ (i : Nat) (s : Sl), δ[i]? = some s → slV K w H ((σ[i]?).join) s
def plainRl (K : PySem.W.Frag) (w : World) : Rl K w where
  P := plainP K w
  ex := fun p e => ⟨p.1, fun i s h => (p.2 i s h).ex e⟩
  get := fun p _ h => p.2 _ _ h
  set := fun {σ H δ i v s} p hi h => by
    refine ⟨by simpa using p.1, fun j t ht => ?_⟩
    by_cases hj : i = j
    · subst hj
      rw [List.getElem?_set_self (by rw [p.1]; exact hi)] at ht
      cases ht
      rw [List.getElem?_set_self hi]; exact h
    · rw [List.getElem?_set_ne hj] at ht ⊢
      exact p.2 j t ht
  unset := fun {σ H δ i} p hi => by
    refine ⟨by simpa using p.1, fun j t ht => ?_⟩
    by_cases hj : i = j
    · subst hj
      rw [List.getElem?_set_self (by rw [p.1]; exact hi)] at ht
      cases ht
      rw [List.getElem?_set_self hi]; trivial
    · rw [List.getElem?_set_ne hj] at ht ⊢
      exact p.2 j t ht

/-! ### the judgement -/
abbrev Fe := Dl → Rs D
abbrev Ft := Dl → Rs Bool
abbrev Fa := Dl → Rs (List D)
abbrev Ews := Str → Dl → Hp → Prop
section
variable {K : PySem.W.Frag} {w : World} (R : Rl K w) (Ew : Ews)
/-- what is wanted of an exception from H on -/
def EW (δ : Dl) (H : Hp) (c : Str) : Prop := ∀ H', Ex H H' → Ew c δ H'
def tE (m : Md) (f : Fe) : TE := fun σ H Q => ∃ δ, R.P σ H δ ∧ Rk (f δ) (EW Ew δ H) fun d => ∀ v H', Ex H H' → Res K w m H H' v d → Q v H'
def tT (f : Ft) : TT := fun σ H Q => ∃ δ, R.P σ H δ ∧ Rk (f δ) (EW Ew δ H) fun b => ∀ H', Ex H H' → Q b H'
inductive Ags (K : PySem.W.Frag) (w : World) (H : Hp) : List Md → List V → List D → Prop
  | nil : Ags K w H [] [] []
  | da {ms : List Md} {v : V} {d : D} {vs : List V} {ds : List D} : Da K w H v d → Ags K w H ms vs ds → Ags K w H (.da :: ms) (v :: vs) (d :: ds)
  | sn {ms : List Md} {v : V} {d : D} {vs : List V} {ds : List D} : Sn K w H v d → Ags K w H ms vs ds → Ags K w H (.sn :: ms) (v :: vs) (d :: ds)
def tA (ms : List Md) (f : Fa) : TA := fun σ H Q => ∃ δ, R.P σ H δ ∧ Rk (f δ) (EW Ew δ H) fun ds => ∀ vs H', Ex H H' → Ags K w H' ms vs ds → Q vs H'
end
theorem Ags.ex {K : PySem.W.Frag} {w : World} {H H' : Hp} (e : Ex H H') : ∀ {ms : List Md} {vs : List V} {ds : List D}, Ags K w H ms vs ds → Ags K w H' ms vs ds
  | _, _, _, .nil => .nil
  | _, _, _, .da h a => .da (h.ex e) (Ags.ex e a)
  | _, _, _, .sn h a => .sn (h.ex e) (Ags.ex e a)
theorem Ags.length {K : PySem.W.Frag} {w : World} {H : Hp} : ∀ {ms : List Md} {vs : List V} {ds : List D}, Ags K w H ms vs ds → vs.length = ms.length ∧ ds.length = ms.length
  | _, _, _, .nil => ⟨rfl, rfl⟩
  | _, _, _, .da h a => by simp [Ags.length a]
  | _, _, _, .sn h a => by simp [Ags.length a]

theorem EW.ex {Ew : Ews} {δ : Dl} {H H1 : Hp} (e : Ex H H1) {c : Str} (h : EW Ew δ H c) : EW Ew δ H1 c := fun H' e' => h H' (e.tr e')

section
variable {X : Cx} {R : Rl X.K X.w} {Ew : Ews}
theorem PE.imp {e : Expr} {t t' : TE} (h : PE X e t) (i : ∀ σ H Q, t' σ H Q → t σ H Q) : PE X e t' := ⟨fun pins s σ H Q I q => h.run pins s σ H Q I (i σ H Q q)⟩
theorem PT.imp {e : Expr} {t t' : TT} (h : PT X e t) (i : ∀ σ H Q, t' σ H Q → t σ H Q) : PT X e t' := ⟨fun pins s σ H Q I q => h.run pins s σ H Q I (i σ H Q q)⟩
theorem PA.imp {e : List Expr} {t t' : TA} (h : PA X e t) (i : ∀ σ H Q, t' σ H Q → t σ H Q) : PA X e t' := ⟨fun pos pins s σ H Q I q => h.run pos pins s σ H Q I (i σ H Q q)⟩
/-- the first part of a bind -/
theorem tE_then {t : Type} {m : Md} {f : Fe} {k : D → Rs t} {σ : St} {H H0 : Hp} {δ : Dl} {Q : VK} {KQ : t → Prop} (p : R.P σ H δ) (e0 : Ex H0 H) (h : Rk (f δ >>= k) (EW Ew δ H0) KQ)
    (hk : ∀ d v H1, R.P σ H1 δ → Ex H H1 → Ex H0 H1 → Res X.K X.w m H H1 v d → Rk (k d) (EW Ew δ H0) KQ → Q v H1) : tE R Ew m f σ H Q :=
  ⟨δ, p, (Rk.bind h).mono (fun _ => EW.ex e0) fun d _ q v H1 e1 r => hk d v H1 (R.ex p e1) e1 (e0.tr e1) r q⟩
theorem tT_then {t : Type} {f : Ft} {k : Bool → Rs t} {σ : St} {H H0 : Hp} {δ : Dl} {Q : Bool → Hp → Prop} {KQ : t → Prop} (p : R.P σ H δ) (e0 : Ex H0 H) (h : Rk (f δ >>= k) (EW Ew δ H0) KQ)
    (hk : ∀ b H1, R.P σ H1 δ → Ex H H1 → Ex H0 H1 → Rk (k b) (EW Ew δ H0) KQ → Q b H1) : tT R Ew f σ H Q :=
  ⟨δ, p, (Rk.bind h).mono (fun _ => EW.ex e0) fun d _ q H1 e1 => hk d H1 (R.ex p e1) e1 (e0.tr e1) q⟩
theorem tA_then {t : Type} {ms : List Md} {f : Fa} {k : List D → Rs t} {σ : St} {H H0 : Hp} {δ : Dl} {Q : List V → Hp → Prop} {KQ : t → Prop} (p : R.P σ H δ) (e0 : Ex H0 H) (h : Rk (f δ >>= k) (EW Ew δ H0) KQ)
    (hk : ∀ d v H1, R.P σ H1 δ → Ex H H1 → Ex H0 H1 → Ags X.K X.w H1 ms v d → Rk (k d) (EW Ew δ H0) KQ → Q v H1) : tA R Ew ms f σ H Q :=
  ⟨δ, p, (Rk.bind h).mono (fun _ => EW.ex e0) fun d _ q v H1 e1 r => hk d v H1 (R.ex p e1) e1 (e0.tr e1) r q⟩
end
end Hm
/-! Hm3: names, constants, displays, operators -/
namespace Hm
open PySem L2 PySem.SeqAt

/-! ### pure functions -/
def fVar (i : Nat) : Fe := fun δ => match δ[i]? with
  | some (.dat d) => .ok d
  | _ => .bad
def fSn (i : Nat) : Fe := fun δ => match δ[i]? with
  | some (.dat d) => .ok d
  | some (.par d) => .ok d
  | some (.own d) => .ok d
  | _ => .bad
def fC (d : D) : Fe := fun _ => .ok d
def fNil : Fa := fun _ => .ok []
def fCons (f : Fe) (g : Fa) : Fa := fun δ => f δ >>= fun x => g δ >>= fun xs => .ok (x :: xs)
def fits (n : Nat) : Bool := decide (n ≤ 16777216)
def fTup (g : Fa) : Fe := fun δ => g δ >>= fun xs => Rs.need (fits xs.length) >>= fun _ => .ok (.tuple xs)
def fLst (g : Fa) : Fe := fun δ => g δ >>= fun xs => Rs.need (fits xs.length) >>= fun _ => .ok (.list xs)
def fOp (g : D → D → Option D) (fa fb : Fe) : Fe := fun δ => fa δ >>= fun x => fb δ >>= fun y => Rs.of (g x y)
def fUn (g : D → Option D) (fa : Fe) : Fe := fun δ => fa δ >>= fun x => Rs.of (g x)
theorem fits_le {n : Nat} (h : fits n = true) : n ≤ sizeLine := by rw [sizeLine_eq]; exact of_decide_eq_true h

section
variable {X : Cx} {R : Rl X.K X.w} {Ew : Ews} {e a b : Expr} {fa fb : Fe} {pos : Pos}
theorem PE.impI {t t' : TE} (h : PE X e t) (i : ∀ pins s σ H Q, Inv X pins σ H s → t' σ H Q → t σ H Q) : PE X e t' := ⟨fun pins s σ H Q I q => h.run pins s σ H Q I (i pins s σ H Q I q)⟩

/-! ### modes -/
theorem ed_sn {m : Md} {f : Fe} (h : PE X e (tE R Ew m f)) : PE X e (tE R Ew .sn f) :=
  PE.imp h fun _ _ _ ⟨δ, p, q⟩ => ⟨δ, p, q.mono (fun _ z => z) fun _ _ k v H' e' r => k v H' e' (Res.sn r)⟩
/-- a thing that may be written is locked for ever -/
theorem Inv.frz {pins : List (Addr × Obj)} {σ : St} {H : Hp} {s : Shared} {p : Addr} {u : HO} (I : Inv X pins σ H s) (h : H p = some u) (mu : Mut (some u)) : ∃ o, Inv X pins σ (upd H p (.frz o u)) s := by
  have hk := I.hok p u h
  have mu' : Mut (H p) := by rw [h]; exact mu
  obtain ⟨o, ho⟩ : ∃ o, s.heap.get? p = some o := by
    cases u with
    | lst xs => obtain ⟨_, _, _, _, e⟩ := hk; exact ⟨_, e⟩
    | dK kvs => obtain ⟨_, _, _, _, o, _, _, e, _⟩ := hk; exact ⟨_, e⟩
    | dT kvs => obtain ⟨_, _, _, _, o, _, _, e, _⟩ := hk; exact ⟨_, e⟩
    | set S n => obtain ⟨o, _, _, _, e, _⟩ := hk; exact ⟨_, e⟩
    | ins C dx fs => obtain ⟨_, _, _, e, _⟩ := hk; exact ⟨_, e⟩
    | ext φ => obtain ⟨_, ⟨_, e⟩, _⟩ := hk; exact ⟨_, e⟩
    | _ => exact mu.elim
  refine ⟨o, ?_⟩
  have ne : ∀ b v, H b = some v → ¬ Mut (some v) → b ≠ p := fun b v e n q => by subst q; rw [h] at e; cases e; exact n mu
  have nn : ∀ b, H b = none → b ≠ p := fun b e q => by subst q; rw [h] at e; cases e
  have st : ∀ b v, ObjOk X.prog X.w H s.heap b v → ObjOk X.prog X.w (upd H p (.frz o u)) s.heap b v := fun b v q =>
    q.stay (fun _ _ _ z => z) (fun c z => by rw [upd_ne (ne c _ z fun y => y)]; exact z) fun c xs z => by rw [upd_ne (ne c _ z fun y => y)]; exact z
  have un : Un X.fs [] H (upd H p (.frz o u)) s.heap s.heap := by
    refine ⟨fun b ob q _ _ _ => q, fun b ob q _ _ _ => ⟨ob.slots, q⟩, fun b ob q n _ => by rw [upd_ne (nn b n)]; exact n, fun b ob q _ => ⟨ob, q⟩, fun b xs q => by rw [upd_ne (ne b _ q fun y => y)]; exact q,
      fun b ob v q => by rw [upd_ne (ne b _ q fun y => y)]; exact q, fun b ps q => ⟨#[], by rw [upd_ne (ne b _ q fun y => y), q]; simp⟩⟩
  have := I.un (h' := s.heap) (t' := s.toks) un (fun b v q => by
    by_cases hb : b = p
    · subst hb
      rw [upd_same] at q
      cases q
      exact ⟨ho, st _ _ hk⟩
    · rw [upd_ne hb] at q
      exact st b v (I.hok b v q))
  exact this
theorem ed_fz {f : Fe} (h : PE X e (tE R Ew .nw f)) : PE X e (tE R Ew .da f) := by
  refine ⟨fun pins s σ H Q I ⟨δ, p, q⟩ => ?_⟩
  refine thn (h.run pins s σ H (fun v H' => ∃ d, (∀ v H', Ex H H' → Da X.K X.w H' v d → Q v H') ∧ Ex H H' ∧ Nw X.K X.w H H' v d) I ⟨δ, p, q.mono (fun _ z => z) fun d _ k v H' e' r => ⟨d, k, e', r⟩⟩) fun u s1 ⟨v, H1, I1, r1, d, k, e1, n⟩ => ?_
  cases n with
  | lst hn hl hd =>
    obtain ⟨o, I2⟩ := Inv.frz I1 hl (by trivial)
    refine ⟨_, _, I2, r1, k _ _ (e1.mt hn) (.lst upd_same (hd.kp (Kp.mt (.inl ?_))))⟩
    rw [hl]; trivial
  | dic hn hl hd hnd =>
    obtain ⟨o, I2⟩ := Inv.frz I1 hl (by trivial)
    refine ⟨_, _, I2, r1, k _ _ (e1.mt hn) (.dic upd_same (hd.kp (Kp.mt (.inl ?_))) hnd)⟩
    rw [hl]; trivial
  | non => exact ⟨_, _, I1, r1, k _ _ e1 .non⟩
  | bl b => exact ⟨_, _, I1, r1, k _ _ e1 (.bl b)⟩
  | int b => exact ⟨_, _, I1, r1, k _ _ e1 (.int b)⟩
  | str b => exact ⟨_, _, I1, r1, k _ _ e1 (.str b)⟩
  | tup h => exact ⟨_, _, I1, r1, k _ _ e1 h⟩

/-! ### names, constants -/
theorem ed_var {i : Nat} {x : Str} (hN : X.N[i]? = some x) (hv : Vis X.env.scope x) (hd : (x == ("__debug__" : Str)) = false := by decide) (hcd : (x == ("__classdict__" : Str)) = false := by decide) :
    PE X (.Name x pos) (tE R Ew .da (fVar i)) := by
  refine PE.impI (pe_var hN hv hd hcd) fun pins s σ H Q I ⟨δ, p, q⟩ => ?_
  have hi : i < σ.length := by rw [I.len]; exact (List.getElem?_eq_some_iff.mp hN).1
  unfold fVar at q
  cases hs : δ[i]? with
  | none => rw [hs] at q; exact q.elim
  | some sl =>
    rw [hs] at q
    cases sl with
    | dat d =>
      have z := R.get p hi hs
      cases hx : σ[i]? with
      | none => rw [hx] at z; exact z.elim
      | some ov =>
        rw [hx] at z
        cases ov with
        | none => exact z.elim
        | some v => exact ⟨v, hx, q v H (Ex.rf H) z⟩
    | _ => exact q.elim
theorem ed_snv {i : Nat} {x : Str} (hN : X.N[i]? = some x) (hv : Vis X.env.scope x) (hd : (x == ("__debug__" : Str)) = false := by decide) (hcd : (x == ("__classdict__" : Str)) = false := by decide) :
    PE X (.Name x pos) (tE R Ew .sn (fSn i)) := by
  refine PE.impI (pe_var hN hv hd hcd) fun pins s σ H Q I ⟨δ, p, q⟩ => ?_
  have hi : i < σ.length := by rw [I.len]; exact (List.getElem?_eq_some_iff.mp hN).1
  unfold fSn at q
  cases hs : δ[i]? with
  | none => rw [hs] at q; exact q.elim
  | some sl =>
    rw [hs] at q
    have z := R.get p hi hs
    cases hx : σ[i]? with
    | none =>
      rw [hx] at z
      cases sl <;> first | exact z.elim | exact q.elim
    | some ov =>
      rw [hx] at z
      cases ov with
      | none => cases sl <;> first | exact z.elim | exact q.elim
      | some v =>
        cases sl with
        | dat d => exact ⟨v, hx, q v H (Ex.rf H) (.da z)⟩
        | par d => exact ⟨v, hx, q v H (Ex.rf H) z⟩
        | own d => exact ⟨v, hx, q v H (Ex.rf H) z⟩
        | _ => exact q.elim
theorem ed_c {v : V} {d : D} (h : PE X e (tC v)) (hn : ∀ H, Nw X.K X.w H H v d) : PE X e (tE R Ew .nw (fC d)) :=
  PE.imp h fun _ H _ ⟨_, _, q⟩ => q v H (Ex.rf H) (hn H)
theorem ed_int {i : Int} {j : Nat} : PE X (.Constant (.int i) j pos) (tE R Ew .nw (fC (.int i))) := ed_c pe_int fun _ => .int i
theorem ed_str {x : Str} {j : Nat} : PE X (.Constant (.str x) j pos) (tE R Ew .nw (fC (.str x))) := ed_c pe_str fun _ => .str x
theorem ed_bl {x : Bool} {j : Nat} : PE X (.Constant (.bool x) j pos) (tE R Ew .nw (fC (.bool x))) := ed_c pe_bl fun _ => .bl x
theorem ed_non {j : Nat} : PE X (.Constant .none j pos) (tE R Ew .nw (fC .none)) := ed_c pe_non fun _ => .non

/-! ### arguments, displays -/
variable {es : List Expr} {g : Fa} {ms : List Md} {f : Fe}
theorem ea_nil : PA X [] (tA R Ew [] fNil) := PA.imp pa_nil fun _ H _ ⟨_, _, q⟩ => q [] H (Ex.rf H) .nil
theorem ea_da (ha : PE X e (tE R Ew .da f)) (hr : PA X es (tA R Ew ms g)) (hs : starEach (e :: es) X.env = (false, eval e X.env) :: starEach es X.env := by rfl) : PA X (e :: es) (tA R Ew (.da :: ms) (fCons f g)) := by
  refine PA.imp (pa_cons ha hr hs) fun σ H Q ⟨δ, p, q⟩ => ?_
  refine tE_then p (Ex.rf H) q fun d v H1 p1 e1 _ r1 q1 => ?_
  refine tA_then p1 e1 q1 fun ds vs H2 p2 e2 e02 r2 q2 => ?_
  exact q2 (v :: vs) H2 e02 (.da (Da.ex e2 r1) r2)
theorem ea_sn (ha : PE X e (tE R Ew .sn f)) (hr : PA X es (tA R Ew ms g)) (hs : starEach (e :: es) X.env = (false, eval e X.env) :: starEach es X.env := by rfl) : PA X (e :: es) (tA R Ew (.sn :: ms) (fCons f g)) := by
  refine PA.imp (pa_cons ha hr hs) fun σ H Q ⟨δ, p, q⟩ => ?_
  refine tE_then p (Ex.rf H) q fun d v H1 p1 e1 _ r1 q1 => ?_
  refine tA_then p1 e1 q1 fun ds vs H2 p2 e2 e02 r2 q2 => ?_
  exact q2 (v :: vs) H2 e02 (.sn (Sn.ex e2 r1) r2)
def allDa : List Md → Bool
  | [] => true
  | .da :: ms => allDa ms
  | _ :: _ => false
theorem Ags.daL {K : PySem.W.Frag} {w : World} {H : Hp} : ∀ {ms : List Md} {vs : List V} {ds : List D}, Ags K w H ms vs ds → allDa ms = true → DaL K w H vs ds
  | _, _, _, .nil, _ => .nil
  | _, _, _, .da h a, m => .cons h (Ags.daL a m)
  | _, _, _, .sn h a, m => by cases m
theorem ed_tup {x1 : Nat} (h : PA X es (tA R Ew ms g)) (hm : allDa ms = true := by rfl) : PE X (.Tuple es x1 pos) (tE R Ew .nw (fTup g)) := by
  refine PE.imp (pe_tup h) fun σ H Q ⟨δ, p, q⟩ => ?_
  refine tA_then p (Ex.rf H) q fun ds vs H1 p1 e1 _ r1 q1 => ?_
  obtain ⟨hz, q1⟩ := Rk.need (Rk.bind q1)
  have hl := r1.daL hm
  refine ⟨by rw [hl.length]; exact fits_le hz, fun t ht => ?_⟩
  exact q1 _ _ (e1.tr (Ex.nw ht)) (.tup (.tup (.inl (.inl upd_same)) (hl.ex (Ex.nw ht))))
theorem ed_lst (h : PA X es (tA R Ew ms g)) (hm : allDa ms = true := by rfl) : PE X (.List es pos) (tE R Ew .nw (fLst g)) := by
  refine PE.imp (pe_lst h) fun σ H Q ⟨δ, p, q⟩ => ?_
  refine tA_then p (Ex.rf H) q fun ds vs H1 p1 e1 _ r1 q1 => ?_
  obtain ⟨hz, q1⟩ := Rk.need (Rk.bind q1)
  have hl := r1.daL hm
  refine ⟨by rw [hl.length]; exact fits_le hz, fun t ht => ?_⟩
  exact q1 _ _ (e1.tr (Ex.nw ht)) (.lst (e1.fresh ht) upd_same (hl.ex (Ex.nw ht)))

/-! ### operators -/
def rD2 (K : PySem.W.Frag) (w : World) (g : D → D → Option D) : R2 := fun x y H Q => ∃ d e r, Sn K w H x d ∧ Sn K w H y e ∧ g d e = some r ∧ ∀ v H', Ex H H' → Nw K w H H' v r → Q v H'
abbrev OpD (X : Cx) (f : Value → Value → Sem Value) (g : D → D → Option D) : Prop := OpR X f (rD2 X.K X.w g)
theorem ed_op {op : Operator} {g : D → D → Option D} (ho : OpD X (binaryOp op) g) (ha : PE X a (tE R Ew .sn fa)) (hb : PE X b (tE R Ew .sn fb)) : PE X (.BinOp a op b pos) (tE R Ew .nw (fOp g fa fb)) := by
  refine PE.imp (pe_op ho ha hb) fun σ H Q ⟨δ, p, q⟩ => ?_
  refine tE_then p (Ex.rf H) q fun d v H1 p1 e1 _ r1 q1 => ?_
  refine tE_then p1 e1 q1 fun ds vs H2 p2 e2 e02 r2 q2 => ?_
  obtain ⟨r, hr, q2⟩ := q2.of
  exact ⟨d, ds, r, Sn.ex e2 r1, r2, hr, fun v H' e' n => q2 v H' (e02.tr e') (Nw.back e02 n)⟩
theorem ed_cmp {op : CmpOp} {g : D → D → Option D} (ho : OpD X (compareOp op) g) (ha : PE X a (tE R Ew .sn fa)) (hb : PE X b (tE R Ew .sn fb)) (hm : behindInMarks op b = false) : PE X (.Compare a [op] [b] pos) (tE R Ew .nw (fOp g fa fb)) := by
  refine PE.imp (pe_cmpR ho ha hb hm) fun σ H Q ⟨δ, p, q⟩ => ?_
  refine tE_then p (Ex.rf H) q fun d v H1 p1 e1 _ r1 q1 => ?_
  refine tE_then p1 e1 q1 fun ds vs H2 p2 e2 e02 r2 q2 => ?_
  obtain ⟨r, hr, q2⟩ := q2.of
  exact ⟨d, ds, r, Sn.ex e2 r1, r2, hr, fun v H' e' n => q2 v H' (e02.tr e') (Nw.back e02 n)⟩

def addD : D → D → Option D
  | .int i, .int j => some (.int (i + j))
  | .bool b, .int j => some (.int ((if b = true then 1 else 0) + j))
  | .str x, .str y => if fits (x.length + y.length) then some (.str (x ++ y)) else none
  | .tuple xs, .tuple ys => if fits (xs.length + ys.length) then some (.tuple (xs ++ ys)) else none
  | .list xs, .list ys => if fits (xs.length + ys.length) then some (.list (xs ++ ys)) else none
  | _, _ => none
end
end Hm
/-! Hm4: operators on data -/
namespace Hm
open PySem L2 PySem.SeqAt

section
variable {K : PySem.W.Frag} {w : World} {H : Hp} {v : V}
theorem Sn.non_ (h : Sn K w H v .none) : v = .non := by cases h with | da h => cases h; rfl
theorem Sn.bl_ {b : Bool} (h : Sn K w H v (.bool b)) : v = .bl b := by cases h with | da h => cases h; rfl
theorem Sn.int_ {i : Int} (h : Sn K w H v (.int i)) : v = .int i := by cases h with | da h => cases h; rfl
theorem Sn.str_ {x : Str} (h : Sn K w H v (.str x)) : v = .str x := by cases h with | da h => cases h; rfl
theorem Sn.tup_ {ds : List D} (h : Sn K w H v (.tuple ds)) : ∃ a xs, v = .ref a ∧ SqT K H a xs ∧ DaL K w H xs ds := by
  cases h with
  | da h => cases h with
    | tup h a => exact ⟨_, _, rfl, h, a⟩
theorem Sn.lst_ {ds : List D} (h : Sn K w H v (.list ds)) : ∃ a xs, v = .ref a ∧ Rd H a (.lst xs) ∧ DaL K w H xs ds := by
  cases h with
  | da h => cases h with
    | lst h a => exact ⟨_, _, rfl, .inr ⟨_, h⟩, a⟩
  | lst h a => exact ⟨_, _, rfl, .inl h, a⟩
theorem Sn.dic_ {kvs : List (D × D)} (h : Sn K w H v (.dict kvs)) : ∃ a es, v = .ref a ∧ Rd H a (dicO a es) ∧ DaE K w H es kvs ∧ (kvs.map fun p => keyOf p.1).Nodup := by
  cases h with
  | da h => cases h with
    | dic h a n => exact ⟨_, _, rfl, .inr ⟨_, h⟩, a, n⟩
  | dic h a n => exact ⟨_, _, rfl, .inl h, a, n⟩
end

section
variable {X : Cx} {pins : List (Addr × Obj)} {σ : St} {H : Hp} {s : Shared}
/-- a list's object -/
theorem rd_lst (I : Inv X pins σ H s) {a : Addr} {xs : List V} (h : Rd H a (.lst xs)) : ∃ (its : List Value) (n : Nat), Vals xs its ∧ xs.length ≤ sizeLine ∧ xs.length = its.length ∧ s.heap.get? a = some { cls := .type "list", data := .seq its.toArray n } := by
  obtain ⟨z, its, n, r, e⟩ := h.ok I.hok
  exact ⟨its, n, r, z, r.length, e⟩
theorem rd_dic (I : Inv X pins σ H s) {a : Addr} {es : List DictEntry} (h : Rd H a (dicO a es)) : DicAt a es s.heap := by
  obtain ⟨z, _⟩ := h.ok I.hok
  exact z
end

section
variable {X : Cx}
theorem sizeLine_of {n : Nat} (h : (if fits n = true then some (0 : Nat) else none).isSome = true) : n ≤ sizeLine := by
  by_cases hf : fits n = true
  · exact fits_le hf
  · rw [if_neg hf] at h; cases h

theorem od_add : OpD X (binaryOp .Add) addD := by
  intro pins s σ H x y v u Q I rx ry h
  obtain ⟨d, e, r, hd, he, hg, q⟩ := h
  unfold addD at hg
  split at hg
  · cases hg; cases hd.int_; cases he.int_
    exact op_add pins s σ H _ _ _ _ _ I rx ry ⟨_, _, rfl, rfl, q _ _ (Ex.rf H) (.int _)⟩
  · cases hg; cases hd.bl_; cases he.int_
    cases rx; obtain ⟨t, rfl⟩ := ry
    exact PySem.IntBool.add_bool_int ⟨.int _, H, I.tok _, ⟨_, rfl⟩, q _ _ (Ex.rf H) (.int _)⟩
  · split at hg
    · rename_i hf
      cases hg; cases hd.str_; cases he.str_
      exact op_add_str pins s σ H _ _ _ _ _ I rx ry ⟨_, _, rfl, rfl, fits_le hf, q _ _ (Ex.rf H) (.str _)⟩
    · cases hg
  · split at hg
    · rename_i hf
      cases hg
      obtain ⟨a, xs, rfl, h1, h2⟩ := hd.tup_
      obtain ⟨b, ys, rfl, k1, k2⟩ := he.tup_
      have l1 := h2.length
      have l2 := k2.length
      refine op_catA pins s σ H _ _ _ _ _ I rx ry ⟨a, b, xs, ys, rfl, rfl, h1, k1, by rw [l1, l2]; exact fits_le hf, fun e => ?_, fun _ e => ?_, fun _ _ p hp => ?_⟩
      · rw [h2.nil_iff.mp e, List.nil_append] at q
        exact q _ _ (Ex.rf H) (.tup (.tup k1 k2))
      · rw [k2.nil_iff.mp e, List.append_nil] at q
        exact q _ _ (Ex.rf H) (.tup (.tup h1 h2))
      · exact q _ _ (Ex.nw hp) (.tup (.tup (.inl (.inl upd_same)) ((h2.append k2).ex (Ex.nw hp))))
    · cases hg
  · split at hg
    · rename_i hf
      cases hg
      obtain ⟨a, xs, rfl, h1, h2⟩ := hd.lst_
      obtain ⟨b, ys, rfl, k1, k2⟩ := he.lst_
      cases rx
      cases ry
      obtain ⟨its, n, rv, z1, l1, e1⟩ := rd_lst I h1
      obtain ⟨its2, n2, rv2, z2, l2, e2⟩ := rd_lst I k1
      have m1 := h2.length
      have m2 := k2.length
      have hz := fits_le hf
      refine PySem.P.add_list e1 e2 ?_ (by rw [List.size_toArray, List.size_toArray]; omega)
      have ea : its.toArray ++ its2.toArray = (its ++ its2).toArray := by simp
      rw [ea]
      have hn : H s.heap.objs.size = none := I.fresh
      exact ⟨.ref _, _, I.lnew (t' := s.toks) (rv.append rv2) (by rw [List.length_append]; omega), rfl, q _ _ (Ex.nw hn) (.lst hn upd_same ((h2.append k2).ex (Ex.nw hn)))⟩
    · cases hg
  · cases hg

def subD : D → D → Option D
  | .int i, .int j => some (.int (i - j))
  | .bool b, .int j => some (.int ((if b = true then 1 else 0) - j))
  | .int i, .bool b => some (.int (i - (if b = true then 1 else 0)))
  | _, _ => none
theorem od_sub : OpD X (binaryOp .Sub) subD := by
  intro pins s σ H x y v u Q I rx ry h
  obtain ⟨d, e, r, hd, he, hg, q⟩ := h
  unfold subD at hg
  split at hg
  · cases hg; cases hd.int_; cases he.int_
    exact op_sub pins s σ H _ _ _ _ _ I rx ry ⟨_, _, rfl, rfl, q _ _ (Ex.rf H) (.int _)⟩
  · cases hg; cases hd.bl_; cases he.int_
    cases rx; obtain ⟨t, rfl⟩ := ry
    exact PySem.IntBool.sub_bool_int ⟨.int _, H, I.tok _, ⟨_, rfl⟩, q _ _ (Ex.rf H) (.int _)⟩
  · cases hg; cases hd.int_; cases he.bl_
    cases ry; obtain ⟨t, rfl⟩ := rx
    exact PySem.IntBool.sub_int_bool ⟨.int _, H, I.tok _, ⟨_, rfl⟩, q _ _ (Ex.rf H) (.int _)⟩
  · cases hg
/-- a whole number of at most 64 bits -/
def small (i : Int) : Bool := decide (i.natAbs < 2 ^ 64)
theorem small_of {i : Int} (h : small i = true) : -(2 ^ 64) < i ∧ i < 2 ^ 64 := by
  have := of_decide_eq_true h
  omega
def repS (x : Str) (n : Nat) : Str := ⟨(List.replicate n x.cps.toList).flatten.toArray⟩
def mulD : D → D → Option D
  | .int i, .int j => if small i || small j then some (.int (i * j)) else none
  | .bool b, .int j => some (.int ((if b = true then 1 else 0) * j))
  | .str x, .int j => if decide (j = 2) && fits (x.length * 2) then some (.str (x ++ x)) else none
  | .list xs, .int j => if decide (0 ≤ j) && decide (j < 1000) && fits (xs.length * j.toNat) then some (.list (List.replicate j.toNat xs).flatten) else none
  | _, _ => none
theorem DaL.rep {K : PySem.W.Frag} {w : World} {H : Hp} {vs : List V} {ds : List D} (h : DaL K w H vs ds) : ∀ n : Nat, DaL K w H (List.replicate n vs).flatten (List.replicate n ds).flatten
  | 0 => .nil
  | n + 1 => by
    rw [List.replicate_succ, List.replicate_succ, List.flatten_cons, List.flatten_cons]
    exact h.append (h.rep n)
theorem od_mul : OpD X (binaryOp .Mult) mulD := by
  intro pins s σ H x y v u Q I rx ry h
  obtain ⟨d, e, r, hd, he, hg, q⟩ := h
  unfold mulD at hg
  split at hg
  · split at hg
    · rename_i hf
      cases hg; cases hd.int_; cases he.int_
      rw [Bool.or_eq_true] at hf
      exact op_mul pins s σ H _ _ _ _ _ I rx ry ⟨_, _, rfl, rfl, hf.imp small_of small_of, q _ _ (Ex.rf H) (.int _)⟩
    · cases hg
  · cases hg; cases hd.bl_; cases he.int_
    cases rx; obtain ⟨t, rfl⟩ := ry
    exact PySem.IntBool.mul_bool_int ⟨.int _, H, I.tok _, ⟨_, rfl⟩, q _ _ (Ex.rf H) (.int _)⟩
  · split at hg
    · rename_i x j hf
      rw [Bool.and_eq_true, decide_eq_true_eq] at hf
      obtain ⟨hj, hf⟩ := hf
      subst hj
      have hf := fits_le hf
      cases hg; cases hd.str_; cases he.int_
      obtain ⟨t, rfl⟩ := rx; obtain ⟨u, rfl⟩ := ry
      rw [sizeLine_eq] at hf
      refine PySem.P.mul_str rfl (fun _ _ => by omega) (fun _ _ => ?_) ?_
      · show decide (x.length * 2 > sizeLine) = false
        rw [sizeLine_eq]
        exact decide_eq_false (by omega)
      · rw [if_neg (by decide)]
        split
        · rename_i hz
          have hz : x.length = 0 := by simpa using hz
          have hx : x ++ x = x := by
            obtain ⟨c⟩ := x
            have hc : c = #[] := Array.eq_empty_of_size_eq_zero hz
            subst hc; rfl
          rw [hx] at q
          exact ⟨.str x, H, I, ⟨_, rfl⟩, q _ _ (Ex.rf H) (.str _)⟩
        · have e : (⟨(List.replicate (2 : Int).toNat x.cps).foldl (· ++ ·) #[]⟩ : Str) = x ++ x := by
            obtain ⟨c⟩ := x
            show (⟨#[] ++ c ++ c⟩ : Str) = ⟨c ++ c⟩
            rw [Array.empty_append]
          rw [e]
          exact ⟨by
            show (x ++ x).length ≤ _
            rw [Str.length_append, sizeLine_eq]; omega, ⟨.str _, H, I.tok _, ⟨_, rfl⟩, q _ _ (Ex.rf H) (.str _)⟩⟩
    · cases hg
  · split at hg
    · rename_i xs j hf
      rw [Bool.and_eq_true, Bool.and_eq_true, decide_eq_true_eq, decide_eq_true_eq] at hf
      obtain ⟨⟨j0, j1⟩, hz⟩ := hf
      cases hg
      cases he.int_
      have hz := fits_le hz
      obtain ⟨a, ys, rfl, h1, h2⟩ := hd.lst_
      cases rx
      obtain ⟨t, rfl⟩ := ry
      have m1 := h2.length
      obtain ⟨its, n, rv, z1, l1, e1⟩ := rd_lst I h1
      have hlen : its.toArray.size * j.toNat ≤ sizeLine := by rw [List.size_toArray, ← l1, m1]; exact hz
      have hcap : ¬ its.toArray.size * j.toNat > (2 ^ 63 - 1) / 8 := by
        have : (sizeLine : Nat) ≤ (2 ^ 63 - 1) / 8 := by decide
        omega
      have hfit : ¬ (!Builtin.List.listFitsIndex j) = true := by
        rw [fitsIndex_both (by omega) (by omega)]
        exact Bool.false_ne_true
      have hlong : ¬ Builtin.List.listTooLong (its.toArray.size * j.toNat) = true := by
        rw [notLongL hlen]
        exact Bool.false_ne_true
      have hnew : List.foldl (fun x1 x2 => x1 ++ x2) #[] (List.replicate (if its.toArray.isEmpty = true then 0 else j.toNat) its.toArray) = (List.replicate j.toNat its).flatten.toArray := by
        have f0 : ∀ m : Nat, List.foldl (fun x1 x2 => x1 ++ x2) #[] (List.replicate m its.toArray) = (List.replicate m its).flatten.toArray := fun m => by
          have := foldl_rep its m []
          rw [List.nil_append] at this
          exact this
        rw [f0]
        cases its with
        | nil => simp
        | cons a r' => rw [if_neg (by simp)]
      refine wpAny_binaryOp_repeat_ref (T := "list") (U := "int") (by decide) ⟨_, e1, rfl⟩ (fun s' => typeIs_int s' j t) noFill_list_mul F.fills_int_mul F.slot_int_rmul repeat_list F.slot_int_index.lookup
        (call_meets F.slot_int_rmul (typeIs_int s j t) F.entry_int_rmul (F.args_int_rmul_2 _ _) (int___rmul___int_list j t a its.toArray n)
          ⟨e1, rfl, ⟨_, e1, rfl⟩, call_meets F.slot_list_mul ⟨_, e1, rfl⟩ F.entry_list_mul (F.args_list_mul_2 _ _) (AutoListH.list___mul___list_int_3 a its.toArray n j t hfit hcap hlong) ⟨e1, ?_⟩⟩)
      rw [hnew]
      have hn : H s.heap.objs.size = none := I.fresh
      exact ⟨.ref _, _, I.lnew (t' := s.toks) (rv.rep j.toNat) (by rw [PyProof.Rows.lm_len_rep_flat, Nat.mul_comm, m1]; exact hz), rfl, q _ _ (Ex.nw hn) (.lst hn upd_same ((h2.rep _).ex (Ex.nw hn)))⟩
    · cases hg
  · cases hg
def modD : D → D → Option D
  | .int i, .int j => if decide (0 < j) then some (.int (i % j)) else none
  | _, _ => none
theorem od_mod : OpD X (binaryOp .Mod) modD := by
  intro pins s σ H x y v u Q I rx ry h
  obtain ⟨d, e, r, hd, he, hg, q⟩ := h
  unfold modD at hg
  split at hg
  · split at hg
    · rename_i hf
      cases hg; cases hd.int_; cases he.int_
      exact op_mod pins s σ H _ _ _ _ _ I rx ry ⟨_, _, rfl, rfl, of_decide_eq_true hf, q _ _ (Ex.rf H) (.int _)⟩
    · cases hg
  · cases hg
def divD : D → D → Option D
  | .int i, .int j => if decide (0 < j) && decide (j < 1073741824) then some (.int (i / j)) else none
  | _, _ => none
theorem od_div : OpD X (binaryOp .FloorDiv) divD := by
  intro pins s σ H x y v u Q I rx ry h
  obtain ⟨d, e, r, hd, he, hg, q⟩ := h
  unfold divD at hg
  split at hg
  · split at hg
    · rename_i hf
      rw [Bool.and_eq_true, decide_eq_true_eq, decide_eq_true_eq] at hf
      cases hg; cases hd.int_; cases he.int_
      exact op_fdiv pins s σ H _ _ _ _ _ I rx ry ⟨_, _, rfl, rfl, hf, q _ _ (Ex.rf H) (.int _)⟩
    · cases hg
  · cases hg

/-! ### comparisons -/
def eqD (d e : D) : Option D := if okD 32 d && okD 32 e then some (.bool (PyData.eqv d e)) else none
def neD (d e : D) : Option D := if okD 32 d && okD 32 e then some (.bool (!PyData.eqv d e)) else none
theorem od_eq (hu : X.A.units + 64 < cLine) : OpD X (compareOp .Eq) eqD := by
  intro pins s σ H x y v u Q I rx ry h
  obtain ⟨d, e, r, hd, he, hg, q⟩ := h
  unfold eqD at hg
  split at hg
  · rename_i hf
    rw [Bool.and_eq_true] at hf
    cases hg
    obtain ⟨as, r1⟩ := hd.reads I rx
    obtain ⟨bs, r2⟩ := he.reads I ry
    exact rcAt_ok 32 d e _ s v u as bs r1 r2 hf.1 hf.2 (by omega) _ _ _ _ ⟨.bl _, H, I, rfl, q _ _ (Ex.rf H) (.bl _)⟩
  · cases hg
theorem od_ne (hu : X.A.units + 64 < cLine) : OpD X (compareOp .NotEq) neD := by
  intro pins s σ H x y v u Q I rx ry h
  obtain ⟨d, e, r, hd, he, hg, q⟩ := h
  unfold neD at hg
  split at hg
  · rename_i hf
    rw [Bool.and_eq_true] at hf
    cases hg
    obtain ⟨as, r1⟩ := hd.reads I rx
    obtain ⟨bs, r2⟩ := he.reads I ry
    exact rcNeAt_ok 32 d e _ s v u as bs r1 r2 hf.1 hf.2 (by omega) _ _ _ _ ⟨.bl _, H, I, rfl, q _ _ (Ex.rf H) (.bl _)⟩
  · cases hg
def isNon : D → Bool
  | .none => true
  | _ => false
def isD : D → D → Option D
  | x, .none => some (.bool (isNon x))
  | .bool a, .bool b => some (.bool (decide (a = b)))
  | _, _ => none
def isNotD : D → D → Option D
  | x, .none => some (.bool (!isNon x))
  | .bool a, .bool b => some (.bool (!decide (a = b)))
  | _, _ => none
theorem Sn.none_iff {K : PySem.W.Frag} {w : World} {H : Hp} {v : V} {d : D} (h : Sn K w H v d) : decide (v = .non) = isNon d := by
  cases h with
  | da h => cases h <;> simp [isNon]
  | lst h a => simp [isNon]
  | dic h a n => simp [isNon]
theorem od_is : OpD X (compareOp .Is) isD := by
  intro pins s σ H x y v u Q I rx ry h
  obtain ⟨d, e, r, hd, he, hg, q⟩ := h
  unfold isD at hg
  split at hg
  · cases hg; cases he.non_
    refine op_isN pins s σ H _ _ _ _ _ I rx ry ⟨rfl, ?_⟩
    rw [hd.none_iff]
    exact q _ _ (Ex.rf H) (.bl _)
  · cases hg; cases hd.bl_; cases he.bl_
    exact op_isBl pins s σ H _ _ _ _ _ I rx ry ⟨_, _, rfl, rfl, q _ _ (Ex.rf H) (.bl _)⟩
  · cases hg
theorem od_isNot : OpD X (compareOp .IsNot) isNotD := by
  intro pins s σ H x y v u Q I rx ry h
  obtain ⟨d, e, r, hd, he, hg, q⟩ := h
  unfold isNotD at hg
  split at hg
  · cases hg; cases he.non_
    refine op_notN pins s σ H _ _ _ _ _ I rx ry ⟨rfl, ?_⟩
    rw [hd.none_iff]
    exact q _ _ (Ex.rf H) (.bl _)
  · cases hg; cases hd.bl_; cases he.bl_
    exact op_notBl pins s σ H _ _ _ _ _ I rx ry ⟨_, _, rfl, rfl, q _ _ (Ex.rf H) (.bl _)⟩
  · cases hg
end
end Hm
/-! Hm5: order, membership, truth, boolean operators -/
namespace Hm
open PySem L2 Ob PySem.SeqAt

/-- stamps rise as pairs do -/
def ltSt (n : Int) (a : Str) (m : Int) (b : Str) : Bool := decide (n < m) || (n == m && decide (a.cps.toList < b.cps.toList))
def ltD : D → D → Option D
  | .int i, .int j => some (.bool (decide (i < j)))
  | .str x, .str y => some (.bool (decide (x.cps.toList < y.cps.toList)))
  | .tuple [.int n, .str a], .tuple [.int m, .str b] => some (.bool (ltSt n a m b))
  | _, _ => none
def gtD (x y : D) : Option D := ltD y x
def leD : D → D → Option D
  | .int i, .int j => some (.bool (decide (i ≤ j)))
  | .str x, .str y => some (.bool (!decide (y.cps.toList < x.cps.toList)))
  | _, _ => none
def geD (x y : D) : Option D := leD y x

section
variable {X : Cx} {pins : List (Addr × Obj)} {σ : St} {H : Hp} {s : Shared}
/-- a pair of a number and a text at the heap -/
theorem pair_at (I : Inv X pins σ H s) {v : V} {n : Int} {a : Str} (h : Sn X.K X.w H v (.tuple [.int n, .str a])) {u : Value} (r : RelV v u) : ∃ p t t', u = .ref p ∧ s.heap.IsTuple p #[.int n t, .str a t'] := by
  obtain ⟨p, xs, rfl, h1, h2⟩ := h.tup_
  cases r
  obtain ⟨its, rv, ht, _⟩ := I.tuple h1
  cases h2 with
  | cons d1 h2 => cases h2 with
    | cons d2 h2 =>
      cases h2; cases d1; cases d2
      cases rv with
      | cons r1 rv => cases rv with
        | cons r2 rv =>
          cases rv
          obtain ⟨t, rfl⟩ := r1
          obtain ⟨t', rfl⟩ := r2
          obtain ⟨o, ho, hc, m, hd⟩ := ht
          exact ⟨p, t, t', rfl, o, ho, hc, m, hd⟩
end
theorem lex_lt (n m : Int) (a b : Str) {e r : Nat → Bool} (e0 : e 0 = (n == m)) (e1 : e 1 = (a == b)) (r0 : r 0 = decide (n < m)) (r1 : r 1 = decide (a.cps.toList < b.cps.toList)) :
    lexAt e r false 0 2 = ltSt n a m b := by
  rw [lexAt_succ, lexAt_succ, lexAt_zero, e0, e1, r0, r1]
  unfold ltSt
  by_cases h : n = m
  · subst h
    by_cases g : a = b
    · subst g; simp
    · simp [g]
  · simp [h]
section
variable {X : Cx}
theorem od_lt (hu : X.A.units + 64 < cLine) : OpD X (compareOp .Lt) ltD := by
  intro pins s σ H x y v u Q I rx ry h
  obtain ⟨d, e, r, hd, he, hg, q⟩ := h
  unfold ltD at hg
  split at hg
  · cases hg; cases hd.int_; cases he.int_
    exact op_lt pins s σ H _ _ _ _ _ I rx ry ⟨_, _, rfl, rfl, q _ _ (Ex.rf H) (.bl _)⟩
  · cases hg; cases hd.str_; cases he.str_
    exact op_lt_str pins s σ H _ _ _ _ _ I rx ry ⟨_, _, rfl, rfl, q _ _ (Ex.rf H) (.bl _)⟩
  · rename_i n a m b
    cases hg
    obtain ⟨p, t1, t2, rfl, hp⟩ := pair_at I hd rx
    obtain ⟨p', u1, u2, rfl, hp'⟩ := pair_at I he ry
    have key := RcOp.tuples_lt (A := X.A) (e := fun j => if j = 0 then (n == m) else (a == b)) (r := fun j => if j = 0 then decide (n < m) else decide (a.cps.toList < b.cps.toList)) hp hp' (by omega)
      (fun j h1 h2 => match j, h1 with
        | 0, _ => EqAt.int_int n t1 m u1
        | 1, _ => EqAt.str_str a t2 b u2)
      (fun j h1 h2 _ => match j, h1 with
        | 0, _ => RcOp.lt_int n m t1 u1
        | 1, _ => fun _ _ _ _ h => PyProof.Rows.lt_str h)
    have key' : RcOp .Lt X.A s (.ref p) (.ref p') (ltSt n a m b) := by
      rw [← lex_lt n m a b (e := fun j => if j = 0 then (n == m) else (a == b)) (r := fun j => if j = 0 then decide (n < m) else decide (a.cps.toList < b.cps.toList)) rfl rfl rfl rfl]
      exact key
    exact key' _ _ _ _ ⟨.bl _, H, I, rfl, q _ _ (Ex.rf H) (.bl _)⟩
  · cases hg
theorem od_gt (hu : X.A.units + 64 < cLine) : OpD X (compareOp .Gt) gtD := by
  intro pins s σ H x y v u Q I rx ry h
  obtain ⟨d, e, r, hd, he, hg, q⟩ := h
  unfold gtD ltD at hg
  split at hg
  · cases hg; cases hd.int_; cases he.int_
    exact op_gt pins s σ H _ _ _ _ _ I rx ry ⟨_, _, rfl, rfl, q _ _ (Ex.rf H) (.bl _)⟩
  · cases hg; cases hd.str_; cases he.str_
    exact op_gt_str pins s σ H _ _ _ _ _ I rx ry ⟨_, _, rfl, rfl, q _ _ (Ex.rf H) (.bl _)⟩
  · rename_i m b n a
    cases hg
    obtain ⟨p, t1, t2, rfl, hp⟩ := pair_at I hd rx
    obtain ⟨p', u1, u2, rfl, hp'⟩ := pair_at I he ry
    have key := RcOp.tuples_gt (A := X.A) (e := fun j => if j = 0 then (n == m) else (a == b)) (r := fun j => if j = 0 then decide (m < n) else decide (b.cps.toList < a.cps.toList)) hp hp' (by omega)
      (fun j h1 h2 => match j, h1 with
        | 0, _ => EqAt.int_int n t1 m u1
        | 1, _ => EqAt.str_str a t2 b u2)
      (fun j h1 h2 _ => match j, h1 with
        | 0, _ => RcOp.gt_int n m t1 u1
        | 1, _ => fun _ _ _ _ h => PySem.P.gt_str h)
    have key' : RcOp .Gt X.A s (.ref p) (.ref p') (ltSt m b n a) := by
      rw [← lex_lt m n b a (e := fun j => if j = 0 then (n == m) else (a == b)) (r := fun j => if j = 0 then decide (m < n) else decide (b.cps.toList < a.cps.toList)) (BEq.comm (a := n) (b := m)) (BEq.comm (a := a) (b := b)) rfl rfl]
      exact key
    exact key' _ _ _ _ ⟨.bl _, H, I, rfl, q _ _ (Ex.rf H) (.bl _)⟩
  · cases hg
theorem od_le : OpD X (compareOp .LtE) leD := by
  intro pins s σ H x y v u Q I rx ry h
  obtain ⟨d, e, r, hd, he, hg, q⟩ := h
  unfold leD at hg
  split at hg
  · cases hg; cases hd.int_; cases he.int_
    exact op_le pins s σ H _ _ _ _ _ I rx ry ⟨_, _, rfl, rfl, q _ _ (Ex.rf H) (.bl _)⟩
  · cases hg; cases hd.str_; cases he.str_
    exact op_le_str pins s σ H _ _ _ _ _ I rx ry ⟨_, _, rfl, rfl, q _ _ (Ex.rf H) (.bl _)⟩
  · cases hg
theorem od_ge : OpD X (compareOp .GtE) geD := by
  intro pins s σ H x y v u Q I rx ry h
  obtain ⟨d, e, r, hd, he, hg, q⟩ := h
  unfold geD leD at hg
  split at hg
  · cases hg; cases hd.int_; cases he.int_
    exact op_ge pins s σ H _ _ _ _ _ I rx ry ⟨_, _, rfl, rfl, q _ _ (Ex.rf H) (.bl _)⟩
  · cases hg; cases hd.str_; cases he.str_
    exact op_ge_str pins s σ H _ _ _ _ _ I rx ry ⟨_, _, rfl, rfl, q _ _ (Ex.rf H) (.bl _)⟩
  · cases hg
end
end Hm
/-! Hm6: dicts whose keys are None and tuples, at the model's level -/
namespace Hm
open PySem L2 PySem.SeqAt

/-- entries and their keys -/
def EK (w : World) (h : Heap) (es : List DictEntry) (ks : List NestedKey) : Prop :=
  es.length = ks.length ∧ ∀ (j : Nat) (e : DictEntry) (k : NestedKey), es[j]? = some e → ks[j]? = some k → e.hash = k.hash w ∧ NestedIs h k e.key ∧ k.depth ≤ 8
section
variable {prog : Program} {w : World} {A : Around} {E : Value → Shared → Prop} {s : Shared}
theorem tells_no {u : Value} {k : NestedKey} {stored : List Value} {Q : Bool → Shared → Prop} (hkey : NestedIs s.heap k u) (hk8 : k.depth ≤ 8) (hst : ∀ v ∈ stored, ∃ k', NestedIs s.heap k' v ∧ k'.depth ≤ 8) (h : Q false s) :
    wpAny (model prog w) A (tableMayTell u stored) Q E s := by
  unfold tableMayTell
  split
  · exact wpAny_pure h
  · refine wpAny_bind (quiet_key k u 8 s hkey hk8 A E _ ?_)
    simp only [Bool.not_true, Bool.false_eq_true, if_false]
    refine wpAny_bind (wpAny_forIn_list _ (fun rest r s' => s' = s ∧ r = (none, ()) ∧ ∀ v ∈ rest, ∃ k', NestedIs s.heap k' v ∧ k'.depth ≤ 8) _ ?_ ?_ _ _ ⟨rfl, rfl, hst⟩)
    · rintro x rest r s' ⟨rfl, rfl, hr⟩
      obtain ⟨k', q1, q2⟩ := hr x List.mem_cons_self
      refine wpAny_bind (quiet_key k' x 8 s' q1 q2 A E _ ?_)
      simp only [Bool.not_true, Bool.false_eq_true, if_false]
      exact wpAny_pure ⟨rfl, rfl, fun v hv => hr v (List.mem_cons_of_mem _ hv)⟩
    · rintro r s' ⟨rfl, rfl, _⟩
      exact wpAny_pure h

theorem ite_by {c : Prop} [Decidable c] {t : Type} {x y : Sem t} {M : Model} {Q : t → Shared → Prop} (h1 : c → wpAny M A x Q E s) (h2 : ¬ c → wpAny M A y Q E s) : wpAny M A (if c then x else y) Q E s := by
  by_cases h : c
  · rw [if_pos h]; exact h1 h
  · rw [if_neg h]; exact h2 h
theorem dfind {d : Addr} {o : Obj} {es : List DictEntry} {ep : Nat} {ks : List NestedKey} {k : NestedKey} {u : Value} {Q : Option Nat → Shared → Prop} (hu : A.units + 8 < cLine) (hkey : NestedIs s.heap k u) (hk8 : k.depth ≤ 8)
    (ho : s.heap.get? d = some o) (hd : o.data = .dict es.toArray ep) (hes : EK w s.heap es ks) (hn : ks.Nodup)
    (hnone : k ∉ ks → Q none s) (hsome : ∀ j, ks[j]? = some k → Q (some j) s) : wpAny (model prog w) A (dictFind d u (k.hash w)) Q E s := by
  obtain ⟨hlen, hat⟩ := hes
  -- the places with that hash
  have hpl : ∀ i, i ∈ placesWithHash es.toArray.size (fun i => es.toArray[i]?.map (·.hash)) (k.hash w) ↔ ∃ e, es[i]? = some e ∧ e.hash = k.hash w := by
    intro i
    unfold placesWithHash
    rw [List.mem_filter, List.mem_range]
    constructor
    · rintro ⟨_, h2⟩
      cases he : es[i]? with
      | none => simp [he] at h2
      | some e => exact ⟨e, rfl, by simpa [he] using h2⟩
    · rintro ⟨e, he, hh⟩
      refine ⟨by simpa using (List.getElem?_eq_some_iff.mp he).1, by simp [he, hh]⟩
  have hkk : ∀ (i : Nat), ks[i]? = some k → ∃ e, es[i]? = some e ∧ e.hash = k.hash w := fun i hi => by
    have hl := (List.getElem?_eq_some_iff.mp hi).1
    obtain ⟨e, he⟩ : ∃ e, es[i]? = some e := ⟨es[i]'(by omega), List.getElem?_eq_getElem _⟩
    exact ⟨e, he, (hat i e k he hi).1⟩
  have hst : ∀ v ∈ (placesWithHash es.toArray.size (fun i => es.toArray[i]?.map (·.hash)) (k.hash w)).filterMap (fun i => es.toArray[i]?.map (·.key)), ∃ k', NestedIs s.heap k' v ∧ k'.depth ≤ 8 := by
    intro v hv
    obtain ⟨i, _, hi⟩ := List.mem_filterMap.mp hv
    cases he : es[i]? with
    | none => simp [he] at hi
    | some e =>
      have hl := (List.getElem?_eq_some_iff.mp he).1
      have hki : ks[i]? = some (ks[i]'(by omega)) := List.getElem?_eq_getElem _
      have := hat i e _ he hki
      simp [he] at hi
      exact ⟨_, hi ▸ this.2.1, this.2.2⟩
  have uniq : ∀ i j, ks[i]? = some k → ks[j]? = some k → i = j := fun i j hi hj =>
    (List.getElem?_inj (List.getElem?_eq_some_iff.mp hi).1 hn).mp (hi.trans hj.symm)
  unfold dictFind
  try with_reducible refine wpAny_holding ?_
  refine wpAny_bind (wpAny_dictEntries ho hd ?_)
  have walk : wpAny (model prog w) A (dictWalkPlain d u (k.hash w) es.toArray (placesWithHash es.toArray.size (fun i => es.toArray[i]?.map (·.hash)) (k.hash w))) Q E s := by
    unfold dictWalkPlain
    refine wpAny_bind (wpAny_forIn_list _ (fun rest b s' => s' = s ∧ b = (none, ()) ∧ (∀ i ∈ rest, ∃ e, es[i]? = some e ∧ e.hash = k.hash w) ∧ ∀ j, ks[j]? = some k → j ∈ rest) _ ?_ ?_ _ _ ⟨rfl, rfl, fun i hi => (hpl i).mp hi, fun j hj => (hpl j).mpr (hkk j hj)⟩)
    · rintro x rest b s' ⟨rfl, rfl, hall, hin⟩
      obtain ⟨e, he, hh⟩ := hall x List.mem_cons_self
      have hl := (List.getElem?_eq_some_iff.mp he).1
      have hki : ks[x]? = some (ks[x]'(by omega)) := List.getElem?_eq_getElem _
      obtain ⟨_, q2, q3⟩ := hat x e _ he hki
      have he' : es.toArray[x]? = some e := by simpa using he
      simp only [he']
      rw [if_pos (by simp [hh])]
      refine wpAny_bind (wpAny_dictEpoch ho hd (wpAny_bind (eqAt_key _ k A _ _ _ q2 hkey (by have := Nat.min_le_right (ks[x]'(by omega)).depth k.depth; omega) _ _ _ _ (wpAny_bind (wpAny_dictEpoch ho hd ?_)))))
      show wpAny _ _ (if (ep != ep) = true then _ else _) _ E _
      rw [if_neg (by simp), ← NestedKey.decide_eq]
      by_cases hq : ks[x]'(by omega) = k
      · rw [decide_eq_true hq, if_pos rfl]
        exact wpAny_bind (wpAny_rule (wpAny_pure (wpAny_pure (hsome x (by rw [hki, hq])))))
      · rw [decide_eq_false hq, if_neg (by simp)]
        refine wpAny_bind (wpAny_rule (wpAny_pure ⟨rfl, rfl, fun i hi => hall i (List.mem_cons_of_mem _ hi), fun j hj => ?_⟩))
        rcases List.mem_cons.mp (hin j hj) with rfl | hm
        · rw [hki] at hj; exact absurd (Option.some.inj hj) hq
        · exact hm
    · rintro b s' ⟨rfl, rfl, _, hin⟩
      refine wpAny_pure (hnone fun hm => ?_)
      obtain ⟨j, hj⟩ := List.mem_iff_getElem?.mp hm
      cases hin j hj
  cases hkey0 : u
  all_goals (first | (subst hkey0; cases hkey; done) | subst hkey0)
  all_goals dsimp only
  all_goals (try (refine ite_by (c := (es.toArray.all fun e => isExactStrKey e.key) = true) (fun hs => ?fnd) (fun _ => ?_)))
  case fnd =>
    rename_i x t
    have hkx : k = .text x := by cases hkey; rfl
    unfold foundByValue
    cases hf : es.toArray.findIdx? (·.key.isStr x) with
    | none =>
      refine wpAny_pure (hnone fun hm => ?_)
      obtain ⟨j, hj⟩ := List.mem_iff_getElem?.mp hm
      obtain ⟨e, he, _⟩ := hkk j hj
      obtain ⟨_, q2, _⟩ := hat j e k he hj
      rw [hkx] at q2
      have hin : e ∈ es.toArray := by simpa using List.mem_of_getElem? he
      have := Array.findIdx?_eq_none_iff.mp hf e hin
      cases hq : e.key <;> rw [hq] at q2 this <;> first | (cases q2; done) | skip
      cases q2
      simp [Value.isStr] at this
    | some i =>
      obtain ⟨hlt, hi, _⟩ := Array.findIdx?_eq_some_iff_getElem.mp hf
      have hlt' : i < es.length := by simpa using hlt
      have he : es[i]? = some es[i] := List.getElem?_eq_getElem _
      have hki : ks[i]? = some (ks[i]'(by omega)) := List.getElem?_eq_getElem _
      obtain ⟨_, q2, q3⟩ := hat i _ _ he hki
      simp only [List.getElem_toArray] at hi
      have hkk2 : ks[i]'(by omega) = k := by
        rw [hkx]
        generalize ks[i]'(by omega) = kk at q2
        cases hq : (es[i]).key <;> rw [hq] at q2 hi <;> simp [Value.isStr] at hi
        subst hi
        cases q2
        rfl
      have he' : es.toArray[i]? = some es[i] := by simpa using he
      simp only [he']
      refine wpAny_bind (wpAny_dictEpoch ho hd (wpAny_bind (eqAt_key _ k A _ _ _ q2 hkey (by have := Nat.min_le_right (ks[i]'(by omega)).depth k.depth; omega) _ _ _ _ (wpAny_bind (wpAny_dictEpoch ho hd ?_)))))
      show wpAny _ _ (if (ep != ep) = true then _ else _) _ E _
      rw [if_neg (by simp), ← NestedKey.decide_eq, decide_eq_true hkk2, if_pos rfl]
      exact wpAny_bind (wpAny_rule (wpAny_pure (hsome i (by rw [hki, hkk2]))))
  all_goals (first | (refine ite_by ?_ ?_; exact fun _ => walk; intro _) | skip)
  all_goals (try (rename_i a _; rw [if_neg (show ¬ (es.toArray.any fun e => e.key == Value.ref a && e.hash != k.hash w) = true by
    rw [Array.any_eq_true]
    rintro ⟨i, hi, hc⟩
    have hi' : i < es.length := by simpa using hi
    simp only [List.getElem_toArray, Bool.and_eq_true, beq_iff_eq, bne_iff_ne, ne_eq] at hc
    obtain ⟨c1, c2⟩ := hc
    have he : es[i]? = some es[i] := List.getElem?_eq_getElem _
    have hki : ks[i]? = some (ks[i]'(by omega)) := List.getElem?_eq_getElem _
    obtain ⟨q1, q2, q3⟩ := hat i _ _ he hki
    rw [c1] at q2
    exact c2 (by rw [q1, NestedIs.inj _ _ _ q2 hkey]))]))
  all_goals (refine ite_by (fun _ => wpAny_bind (wpAny_pure ?_)) (fun _ => wpAny_bind (tells_no hkey hk8 hst ?_)))
  all_goals
    rw [if_neg (by simp)]
    refine wpAny_bind (wpAny_forIn_list _ (fun rest b s' => s' = s ∧ ∃ hit, b = (none, hit) ∧ (∀ i ∈ rest, ∃ e, es[i]? = some e ∧ e.hash = k.hash w) ∧ rest.Nodup ∧
      ((hit = none ∧ ∀ j, ks[j]? = some k → j ∈ rest) ∨ ∃ j, hit = some j ∧ ks[j]? = some k ∧ j ∉ rest)) _ ?_ ?_ _ _
      ⟨rfl, none, rfl, fun i hi => (hpl i).mp hi, by unfold placesWithHash; exact List.Pairwise.filter _ List.nodup_range, .inl ⟨rfl, fun j hj => (hpl j).mpr (hkk j hj)⟩⟩)
  all_goals first
    | (rintro x rest b s' ⟨rfl, hit, rfl, hall, hnd, hH⟩
       obtain ⟨hx, hnd⟩ := List.nodup_cons.mp hnd
       obtain ⟨e, he, hh⟩ := hall x List.mem_cons_self
       have hl := (List.getElem?_eq_some_iff.mp he).1
       have hki : ks[x]? = some (ks[x]'(by omega)) := List.getElem?_eq_getElem _
       obtain ⟨_, q2, q3⟩ := hat x e _ he hki
       have he' : es.toArray[x]? = some e := by simpa using he
       simp only [he']
       rw [if_pos (by simp [hh])]
       refine wpAny_bind (wpAny_dictEpoch ho hd (wpAny_bind (eqAt_key _ k A _ _ _ q2 hkey (by have := Nat.min_le_right (ks[x]'(by omega)).depth k.depth; omega) _ _ _ _ (wpAny_bind (wpAny_dictEpoch ho hd ?_)))))
       show wpAny _ _ (if (ep != ep) = true then _ else _) _ E _
       rw [if_neg (by simp), ← NestedKey.decide_eq]
       by_cases hq : ks[x]'(by omega) = k
       · rw [decide_eq_true hq, if_pos rfl]
         rcases hH with ⟨rfl, hin⟩ | ⟨j, rfl, hj, hjr⟩
         · simp only [Option.isSome_none, Bool.false_eq_true, if_false]
           first | refine wpAny_bind (wpAny_pure ?_) | skip
           refine wpAny_bind (wpAny_rule ?_)
           split
           · exact wpAny_pure (wpAny_pure (hsome x (by rw [hki, hq])))
           · exact wpAny_pure ⟨rfl, some x, rfl, fun i hi => hall i (List.mem_cons_of_mem _ hi), hnd, .inr ⟨x, rfl, by rw [hki, hq], hx⟩⟩
         · exact absurd (uniq j x hj (by rw [hki, hq])) fun e => hjr (by rw [e]; exact List.mem_cons_self)
       · rw [decide_eq_false hq, if_neg (by simp)]
         refine wpAny_bind (wpAny_rule ?_)
         have hH' : (hit = none ∧ ∀ j, ks[j]? = some k → j ∈ rest) ∨ ∃ j, hit = some j ∧ ks[j]? = some k ∧ j ∉ rest := by
           rcases hH with ⟨rfl, hin⟩ | ⟨j, rfl, hj, hjr⟩
           · refine .inl ⟨rfl, fun j hj => ?_⟩
             rcases List.mem_cons.mp (hin j hj) with rfl | hm
             · rw [hki] at hj; exact absurd (Option.some.inj hj) hq
             · exact hm
           · exact .inr ⟨j, rfl, hj, fun z => hjr (List.mem_cons_of_mem _ z)⟩
         first
           | exact wpAny_pure ⟨rfl, hit, rfl, fun i hi => hall i (List.mem_cons_of_mem _ hi), hnd, hH'⟩
           | (rw [if_neg (by simp)]; exact wpAny_pure ⟨rfl, hit, rfl, fun i hi => hall i (List.mem_cons_of_mem _ hi), hnd, hH'⟩)
           | (rw [if_neg (by simp)]; exact wpAny_bind (wpAny_pure (wpAny_pure ⟨rfl, hit, rfl, fun i hi => hall i (List.mem_cons_of_mem _ hi), hnd, hH'⟩))))
    | (rintro b s' ⟨rfl, hit, rfl, _, _, hH⟩
       rcases hH with ⟨rfl, hin⟩ | ⟨j, rfl, hj, _⟩
       · refine wpAny_pure (hnone fun hm => ?_)
         obtain ⟨j, hj⟩ := List.mem_iff_getElem?.mp hm
         cases hin j hj
       · exact wpAny_pure (hsome j hj))
end
end Hm
/-! Hm7: dict operations at the model's level, by entries -/
namespace Hm
open PySem L2 PySem.SeqAt

theorem modify_set {t : Type} (f : t → t) : ∀ (l : List t) (i : Nat) (h : i < l.length), l.modify i f = l.set i (f l[i])
  | [], i, h => absurd h (Nat.not_lt_zero _)
  | x :: l, 0, _ => by simp
  | x :: l, i + 1, h => by
    have := modify_set f l i (by simpa using h)
    simp [this]
section
variable {prog : Program} {w : World} {A : Around} {E : Value → Shared → Prop} {s : Shared} {d : Addr} {es : List DictEntry} {ks : List NestedKey} {k : NestedKey} {u : Value}
theorem DicAt.typeIs (h : DicAt d es s.heap) : s.TypeIs (.ref d) "dict" := let ⟨_, _, o, _, ho, hc, _⟩ := h; ⟨o, ho, hc.1⟩
theorem DicAt.noDict (h : DicAt d es s.heap) : ∃ ob, s.heap.get? d = some ob ∧ ob.dict = none := let ⟨_, _, o, _, ho, hc, _⟩ := h; ⟨o, ho, hc.2.1⟩

theorem dget {Q : Option Value → Shared → Prop} (hu : A.units + 8 < cLine) (hkey : NestedIs s.heap k u) (hk8 : k.depth ≤ 8) (hm : DicAt d es s.heap) (hes : EK w s.heap es ks) (hn : ks.Nodup)
    (hnone : k ∉ ks → ∀ t, Q none { s with toks := t }) (hsome : ∀ (j : Nat) (e : DictEntry) (t : Nat), ks[j]? = some k → es[j]? = some e → Q (some e.val) { s with toks := t }) : wpAny (model prog w) A (dictGet d u) Q E s := by
  obtain ⟨_, _, o, ep, ho, hc, hd⟩ := hm
  unfold dictGet
  try with_reducible refine wpAny_holding ?_
  refine wpAny_bind (pyHash_key k u A s _ hkey (by omega) (wpAny_bind (dfind (s := { s with toks := s.toks + k.draws }) hu hkey hk8 ho hd hes hn (fun h => wpAny_pure (hnone h _)) fun j hj => ?_)))
  have hl := (List.getElem?_eq_some_iff.mp hj).1
  have he : es[j]? = some (es[j]'(by have := hes.1; omega)) := List.getElem?_eq_getElem _
  refine wpAny_bind (wpAny_dictEntries (s := { s with toks := s.toks + k.draws }) ho hd (wpAny_pure ?_))
  have := hsome j _ (s.toks + k.draws) hj he
  simpa [he] using this

theorem dsetH {v : Value} {Q : Unit → Shared → Prop} (hu : A.units + 8 < cLine) (hkey : NestedIs s.heap k u) (hk8 : k.depth ≤ 8) (hm : DicAt d es s.heap) (hes : EK w s.heap es ks) (hn : ks.Nodup) (hz : es.length < sizeLine)
    (hnew : k ∉ ks → ∀ h', DicAt d (es ++ [⟨k.hash w, u, v⟩]) h' → Heap.SameBut d s.heap h' → Q () { s with heap := h' })
    (hold : ∀ (j : Nat) (e : DictEntry), ks[j]? = some k → es[j]? = some e → ∀ h', DicAt d (es.set j { e with val := v }) h' → Heap.SameBut d s.heap h' → Q () { s with heap := h' }) :
    wpAny (model prog w) A (dictSetHashed d u (k.hash w) v) Q E s := by
  obtain ⟨h1, h2, o, ep, ho, hc, hd⟩ := hm
  unfold dictSetHashed
  try with_reducible refine wpAny_holding ?_
  refine wpAny_bind (dfind hu hkey hk8 ho hd hes hn (fun hno => ?_) fun j hj => ?_)
  · refine wpAny_bind (wpAny_rule (wpAny_updateDictKeys (hz := by simpa using h2) ho hd (hnew hno _ ⟨h1, by rw [List.length_append]; exact hz, _, ep + 1, Heap.get?_update_self _ ho (Obj.isFreed_of_dict (Obj.data_mapDictKeys hd _)), hc.mapDictKeys _, ?_⟩ (Heap.SameBut.update ..))))
    rw [Obj.data_mapDictKeys hd _]
    simp
  · have hl := (List.getElem?_eq_some_iff.mp hj).1
    have hl2 : j < es.length := by have := hes.1; omega
    have he : es[j]? = some es[j] := List.getElem?_eq_getElem _
    refine wpAny_bind (wpAny_rule (wpAny_bind (wpAny_updateDict ho hd (wpAny_point (hold j _ hj he _ ⟨h1, by simpa using h2, _, ep, Heap.get?_update_self _ ho (Obj.isFreed_of_dict (Obj.data_mapDict hd _)), hc.mapDict _, ?_⟩ (Heap.SameBut.update ..))))))
    rw [Obj.data_mapDict hd _]
    congr 1
    rw [List.modify_toArray]
    congr 1
    rw [modify_set _ _ _ hl2]

theorem dset {v : Value} {Q : Unit → Shared → Prop} (hu : A.units + 8 < cLine) (hkey : NestedIs s.heap k u) (hk8 : k.depth ≤ 8) (hm : DicAt d es s.heap) (hes : EK w s.heap es ks) (hn : ks.Nodup) (hz : es.length < sizeLine)
    (hnew : k ∉ ks → ∀ h' t, DicAt d (es ++ [⟨k.hash w, u, v⟩]) h' → Heap.SameBut d s.heap h' → Q () { s with heap := h', toks := t })
    (hold : ∀ (j : Nat) (e : DictEntry), ks[j]? = some k → es[j]? = some e → ∀ h' t, DicAt d (es.set j { e with val := v }) h' → Heap.SameBut d s.heap h' → Q () { s with heap := h', toks := t }) :
    wpAny (model prog w) A (dictSet d u v) Q E s := by
  unfold dictSet
  try with_reducible refine wpAny_holding ?_
  refine wpAny_bind (pyHash_key k u A s _ hkey (by omega) ?_)
  exact dsetH (s := { s with toks := s.toks + k.draws }) hu hkey hk8 hm hes hn hz (fun h h' q1 q2 => hnew h h' _ q1 q2) fun j e a b h' q1 q2 => hold j e a b h' _ q1 q2

theorem dcontains {Q : Bool → Shared → Prop} (hu : A.in1.units + 8 < cLine) (hkey : NestedIs s.heap k u) (hk8 : k.depth ≤ 8) (hm : DicAt d es s.heap) (hes : EK w s.heap es ks) (hn : ks.Nodup)
    (h : ∀ t, Q (decide (k ∈ ks)) { s with toks := t }) : wpAny (model prog w) A (contains (.ref d) u) Q E s := by
  have hd := hm.1
  have hT : s.TypeIs (.ref d) "dict" := hm.typeIs
  unfold contains
  try with_reducible refine wpAny_holding ?_
  refine wpAny_bind (wpAny_specialOf hT slot_dict_contains.lookup ?_)
  show wpAny _ _ (if (some (Value.builtin "dict.__contains__") == some Value.none) = true then _ else _) _ E s
  rw [if_neg (by rw [beq_builtin_none]; exact Bool.false_ne_true)]
  refine wpAny_bind (wpAny_callSpecialUnlessNone?_slot (name := Str.ofString "__contains__") hT slot_dict_contains (wpAny_call_entry slot_dict_contains hT entry_dict_contains ?_ (args_dict_contains _ _)))
  show wpAny _ _ (dictGet d u >>= _) _ _ s
  refine wpAny_bind (dget hu hkey hk8 hm hes hn (fun hno t => ?_) fun j e t hj he => ?_)
  · show wpAny _ _ (Builtin.Dict.pendingKey? d u >>= _) _ _ _
    have := h t
    rw [decide_eq_false hno] at this
    exact wpAny_bind (wpAny_pendingKey_other hd (wpAny_pure ⟨_, rfl, wpAny_truthy_bool this⟩))
  · show wpAny _ _ (ret (.bool true)) _ _ _
    have := h t
    rw [decide_eq_true (List.mem_of_getElem? hj)] at this
    exact wpAny_pure ⟨_, rfl, wpAny_truthy_bool this⟩

theorem dgetItem {Q : Value → Shared → Prop} (hu : A.in1.units + 8 < cLine) (hkey : NestedIs s.heap k u) (hk8 : k.depth ≤ 8) (hm : DicAt d es s.heap) (hes : EK w s.heap es ks) (hn : ks.Nodup) (hin : k ∈ ks)
    (hsome : ∀ (j : Nat) (e : DictEntry) (t : Nat), ks[j]? = some k → es[j]? = some e → Q e.val { s with toks := t }) : wpAny (model prog w) A (getItem (.ref d) u) Q E s := by
  have hT : s.TypeIs (.ref d) "dict" := hm.typeIs
  unfold getItem
  try with_reducible refine wpAny_holding ?_
  refine wpAny_bind (wpAny_sequenceKey hT (by decide) ?_)
  refine wpAny_bind (wpAny_callSpecial?_slot (name := Str.ofString "__getitem__") hT slot_dict_getitem (wpAny_call_entry slot_dict_getitem hT entry_dict_getitem ?_ (args_dict_getitem _ _)))
  show wpAny _ _ (dictGet d u >>= _) _ _ s
  exact wpAny_bind (dget hu hkey hk8 hm hes hn (fun hno => absurd hin hno) fun j e t hj he => wpAny_pure ⟨e.val, rfl, wpAny_pure (hsome j e t hj he)⟩)

theorem dsetItem {v : Value} {Q : Unit → Shared → Prop} (hu : A.in1.units + 8 < cLine) (hkey : NestedIs s.heap k u) (hk8 : k.depth ≤ 8) (hm : DicAt d es s.heap) (hes : EK w s.heap es ks) (hn : ks.Nodup) (hz : es.length < sizeLine)
    (hnew : k ∉ ks → ∀ h' t, DicAt d (es ++ [⟨k.hash w, u, v⟩]) h' → Heap.SameBut d s.heap h' → Q () { s with heap := h', toks := t })
    (hold : ∀ (j : Nat) (e : DictEntry), ks[j]? = some k → es[j]? = some e → ∀ h' t, DicAt d (es.set j { e with val := v }) h' → Heap.SameBut d s.heap h' → Q () { s with heap := h', toks := t }) :
    wpAny (model prog w) A (setItem (.ref d) u v) Q E s := by
  have hT : s.TypeIs (.ref d) "dict" := hm.typeIs
  unfold setItem
  try with_reducible refine wpAny_holding ?_
  refine wpAny_bind (wpAny_sequenceKey hT (by decide) ?_)
  refine wpAny_bind (wpAny_callSpecial?_slot (name := Str.ofString "__setitem__") hT slot_dict_setitem (wpAny_call_entry slot_dict_setitem hT entry_dict_setitem ?_ (args_dict_setitem _ _ _)))
  show wpAny _ _ (Builtin.Dict.notOrdered "__setitem__" ⟨[.ref d, u, v], []⟩ >>= _) _ _ s
  refine wpAny_bind (wpAny_notOrdered_dict hT ?_)
  show wpAny _ _ (dictSet d u v >>= _) _ _ s
  exact wpAny_bind (dset hu hkey hk8 hm hes hn hz (fun h h' t q1 q2 => wpAny_pure ⟨.none, rfl, wpAny_pure (hnew h h' t q1 q2)⟩) fun j e a b h' t q1 q2 => wpAny_pure ⟨.none, rfl, wpAny_pure (hold j e a b h' t q1 q2)⟩)

/-- d.get(k, x) -/
theorem dget2 {x : Value} {Q : Value → Shared → Prop} (hu : A.in1.units + 8 < cLine) (hkey : NestedIs s.heap k u) (hk8 : k.depth ≤ 8) (hm : DicAt d es s.heap) (hes : EK w s.heap es ks) (hn : ks.Nodup)
    (hnone : k ∉ ks → ∀ t, Q x { s with toks := t }) (hsome : ∀ (j : Nat) (e : DictEntry) (t : Nat), ks[j]? = some k → es[j]? = some e → Q e.val { s with toks := t }) : wpAny (model prog w) A (call (.builtin "dict.get") [.ref d, u, x]) Q E s := by
  have hT : s.TypeIs (.ref d) "dict" := hm.typeIs
  have M : MeetsIn prog w (Builtin.«dict.get» ⟨[.ref d, u, x], []⟩) (fun A' R s' => A' = A ∧ s' = s ∧ (k ∉ ks → ∀ t, R (.ok (.ret x)) { s with toks := t }) ∧ ∀ (j : Nat) (e : DictEntry) (t : Nat), ks[j]? = some k → es[j]? = some e → R (.ok (.ret e.val)) { s with toks := t }) :=
    .of_wp fun A' R s' ⟨e1, e2, q1, q2⟩ => by
      subst e1 e2
      show wpAny _ _ (dictGet d u >>= _) _ _ s'
      refine wpAny_bind (dget hu hkey hk8 hm hes hn (fun hno t => ?_) fun j e t hj he => wpAny_pure ⟨e.val, rfl, q2 j e t hj he⟩)
      show wpAny _ _ (Builtin.Dict.missed d u >>= _) _ _ _
      exact wpAny_bind (wpAny_missed_other hm.1 (wpAny_pure ⟨x, rfl, q1 hno t⟩))
  exact call_meetsIn F.slot_dict_get hT F.entry_dict_get (F.args_dict_get_3 _ _ _) M ⟨rfl, rfl, hnone, hsome⟩

/-- d.setdefault(k, x) -/
theorem dsetdef {x : Value} {Q : Value → Shared → Prop} (hu : A.in1.units + 8 < cLine) (hkey : NestedIs s.heap k u) (hk8 : k.depth ≤ 8) (hm : DicAt d es s.heap) (hes : EK w s.heap es ks) (hn : ks.Nodup) (hz : es.length < sizeLine)
    (hnew : k ∉ ks → ∀ h' t, DicAt d (es ++ [⟨k.hash w, u, x⟩]) h' → Heap.SameBut d s.heap h' → Q x { s with heap := h', toks := t })
    (hold : ∀ (j : Nat) (e : DictEntry) (t : Nat), ks[j]? = some k → es[j]? = some e → Q e.val { s with toks := t }) : wpAny (model prog w) A (call (.builtin "dict.setdefault") [.ref d, u, x]) Q E s := by
  have hT : s.TypeIs (.ref d) "dict" := hm.typeIs
  have M : MeetsIn prog w (Builtin.«dict.setdefault» ⟨[.ref d, u, x], []⟩) (fun A' R s' => A' = A ∧ s' = s ∧
      (k ∉ ks → ∀ h' t, DicAt d (es ++ [⟨k.hash w, u, x⟩]) h' → Heap.SameBut d s.heap h' → R (.ok (.ret x)) { s with heap := h', toks := t }) ∧ ∀ (j : Nat) (e : DictEntry) (t : Nat), ks[j]? = some k → es[j]? = some e → R (.ok (.ret e.val)) { s with toks := t }) :=
    .of_wp fun A' R s' ⟨e1, e2, q1, q2⟩ => by
      subst e1 e2
      unfold Builtin.«dict.setdefault»
      refine wpAny_bind ?_
      unfold Builtin.Dict.keyAndDefault
      refine wpAny_bind (wpAny_notOrdered_dict hT ?_)
      show wpAny _ _ (pure (d, u, some x)) _ _ s'
      refine wpAny_pure ?_
      show wpAny _ _ (if (d == sysModules) = true then _ else (dictSetDefault d u x >>= _)) _ _ s'
      rw [if_neg (by rw [hm.1]; exact Bool.false_ne_true)]
      refine wpAny_bind ?_
      obtain ⟨h1, h2, o, ep, ho, hc, hd⟩ := hm
      unfold dictSetDefault
      try with_reducible refine wpAny_holding ?_
      refine wpAny_bind (pyHash_key k u A'.in1 s' _ hkey (by omega) ?_)
      refine wpAny_bind (dfind (s := { s' with toks := s'.toks + k.draws }) hu hkey hk8 ho hd hes hn (fun hno => ?_) fun j hj => ?_)
      · refine wpAny_bind (wpAny_rule (wpAny_bind (wpAny_updateDictKeys (hz := by simpa using h2) (s := { s' with toks := s'.toks + k.draws }) ho hd (wpAny_pure (wpAny_pure ⟨x, rfl, q1 hno _ _ ⟨h1, by rw [List.length_append]; exact hz, _, ep + 1, Heap.get?_update_self _ ho (Obj.isFreed_of_dict (Obj.data_mapDictKeys hd _)), hc.mapDictKeys _, ?_⟩ (Heap.SameBut.update ..)⟩)))))
        rw [Obj.data_mapDictKeys hd _]
        simp
      · have hl := (List.getElem?_eq_some_iff.mp hj).1
        have he : es[j]? = some (es[j]'(by have := hes.1; omega)) := List.getElem?_eq_getElem _
        refine wpAny_bind (wpAny_dictEntries (s := { s' with toks := s'.toks + k.draws }) ho hd ?_)
        have he' : es.toArray[j]? = some (es[j]'(by have := hes.1; omega)) := by simpa using he
        rw [he']
        exact wpAny_bind (wpAny_rule (wpAny_pure (wpAny_pure ⟨_, rfl, q2 j _ _ hj he⟩)))
  exact call_meetsIn F.slot_dict_setdefault hT F.entry_dict_setdefault (F.args_dict_setdefault_3 _ _ _) M ⟨rfl, rfl, hnew, hold⟩
end
end Hm
/-! Hm8: membership, subscripts, slices -/
namespace Hm
open PySem L2 Ob PySem.SeqAt

/-! ### dicts, pure -/
def dLook {t : Type} (kvs : List (D × t)) (n : NestedKey) : Option t := (kvs.find? fun p => decide (keyOf p.1 = some n)).map (·.2)
def dHas {t : Type} (kvs : List (D × t)) (n : NestedKey) : Bool := kvs.any fun p => decide (keyOf p.1 = some n)
def dPut {t : Type} (kvs : List (D × t)) (k : D) (v : t) : List (D × t) :=
  if (kvs.any fun p => decide (keyOf p.1 = keyOf k)) = true then kvs.map fun p => if keyOf p.1 = keyOf k then (p.1, v) else p else kvs ++ [(k, v)]

theorem nth_nodup {t : Type} {kvs : List (D × t)} (hn : (kvs.map fun p => keyOf p.1).Nodup) {i j : Nat} {p q : D × t} (h1 : kvs[i]? = some p) (h2 : kvs[j]? = some q) (e : keyOf p.1 = keyOf q.1) : i = j := by
  have a1 : (kvs.map fun p => keyOf p.1)[i]? = some (keyOf p.1) := by rw [List.getElem?_map, h1]; rfl
  have a2 : (kvs.map fun p => keyOf p.1)[j]? = some (keyOf p.1) := by rw [List.getElem?_map, h2, e]; rfl
  exact (List.getElem?_inj (List.getElem?_eq_some_iff.mp a1).1 hn).mp (a1.trans a2.symm)
theorem dLook_of_get {t : Type} {kvs : List (D × t)} (hn : (kvs.map fun p => keyOf p.1).Nodup) {j : Nat} {p : D × t} {n : NestedKey} (h : kvs[j]? = some p) (e : keyOf p.1 = some n) : dLook kvs n = some p.2 := by
  unfold dLook
  induction kvs generalizing j with
  | nil => simp at h
  | cons x xs ih =>
    rw [List.map_cons, List.nodup_cons] at hn
    cases j with
    | zero =>
      simp only [List.getElem?_cons_zero, Option.some.injEq] at h
      subst h
      simp [e]
    | succ j =>
      simp only [List.getElem?_cons_succ] at h
      have hx : ¬ keyOf x.1 = some n := fun q => hn.1 (List.mem_map.mpr ⟨p, List.mem_of_getElem? h, by rw [e, q]⟩)
      rw [List.find?_cons, decide_eq_false hx]
      exact ih hn.2 h
theorem dLook_none {t : Type} {kvs : List (D × t)} {n : NestedKey} (h : dHas kvs n = false) : dLook kvs n = none := by
  unfold dLook
  unfold dHas at h
  rw [Option.map_eq_none_iff, List.find?_eq_none]
  intro x hx
  have := List.any_eq_false.mp h x hx
  simpa using this
theorem dLook_has {t : Type} {kvs : List (D × t)} {n : NestedKey} {v : t} (h : dLook kvs n = some v) : dHas kvs n = true := by
  cases h1 : dHas kvs n with
  | true => rfl
  | false => rw [dLook_none h1] at h; cases h

section
variable {X : Cx} {pins : List (Addr × Obj)} {σ : St} {H : Hp} {s : Shared}
/-- the keys of data entries -/
theorem DaE.ek (I : Inv X pins σ H s) : ∀ {es : List DictEntry} {kvs : List (D × D)}, DaE X.K X.w H es kvs → ∃ ks : List NestedKey, (kvs.map fun p => keyOf p.1) = ks.map some ∧ EK X.w s.heap es ks
  | _, _, .nil => ⟨[], rfl, rfl, fun j e k h => by simp at h⟩
  | _, _, .cons (n := n) r1 h1 r2 h2 hn a => by
    obtain ⟨ks, e1, l1, h3⟩ := DaE.ek I a
    obtain ⟨q1, q2⟩ := keyOf_some hn
    refine ⟨n :: ks, by simp [e1, hn], by simp [l1], fun j e k he hk => ?_⟩
    cases j with
    | zero =>
      simp only [List.getElem?_cons_zero, Option.some.injEq] at he hk
      subst he hk
      exact ⟨rfl, (Sn.da h1).nested I r1 q1, q2⟩
    | succ j =>
      simp only [List.getElem?_cons_succ] at he hk
      exact h3 j e k he hk
theorem DaE.get {K : PySem.W.Frag} {w : World} : ∀ {es : List DictEntry} {kvs : List (D × D)} {j : Nat} {e : DictEntry}, DaE K w H es kvs → es[j]? = some e → ∃ d z v, kvs[j]? = some (d, z) ∧ RelV v e.val ∧ Da K w H v z
  | _, _, _, _, .nil, h => by simp at h
  | _, _, 0, _, .cons r1 h1 r2 h2 hn a, h => by
    simp only [List.getElem?_cons_zero, Option.some.injEq] at h
    subst h
    exact ⟨_, _, _, rfl, r2, h2⟩
  | _, _, j + 1, _, .cons r1 h1 r2 h2 hn a, h => by
    simp only [List.getElem?_cons_succ] at h
    obtain ⟨d, z, v, q1, q2, q3⟩ := DaE.get (j := j) a h
    exact ⟨d, z, v, by simpa using q1, q2, q3⟩
theorem ks_nodup {kvs : List (D × D)} {ks : List NestedKey} (e : (kvs.map fun p => keyOf p.1) = ks.map some) (h : (kvs.map fun p => keyOf p.1).Nodup) : ks.Nodup := by
  rw [e] at h
  exact List.Pairwise.imp (fun {a b} q r => q (by rw [r])) (List.pairwise_map.mp h)
theorem ks_mem {t : Type} {kvs : List (D × t)} {ks : List NestedKey} (e : (kvs.map fun p => keyOf p.1) = ks.map some) (n : NestedKey) : decide (n ∈ ks) = dHas kvs n := by
  unfold dHas
  rw [Bool.eq_iff_iff, decide_eq_true_eq, List.any_eq_true]
  constructor
  · intro h
    have : some n ∈ ks.map some := List.mem_map.mpr ⟨n, h, rfl⟩
    rw [← e] at this
    obtain ⟨p, hp, q⟩ := List.mem_map.mp this
    exact ⟨p, hp, decide_eq_true q⟩
  · rintro ⟨p, hp, q⟩
    have : some n ∈ kvs.map fun p => keyOf p.1 := List.mem_map.mpr ⟨p, hp, of_decide_eq_true q⟩
    rw [e] at this
    obtain ⟨m, hm, q⟩ := List.mem_map.mp this
    cases q
    exact hm
theorem ks_at {t : Type} {kvs : List (D × t)} {ks : List NestedKey} (e : (kvs.map fun p => keyOf p.1) = ks.map some) {j : Nat} {n : NestedKey} {p : D × t} (h : ks[j]? = some n) (h2 : kvs[j]? = some p) : keyOf p.1 = some n := by
  have a1 : (kvs.map fun p => keyOf p.1)[j]? = some (keyOf p.1) := by rw [List.getElem?_map, h2]; rfl
  rw [e, List.getElem?_map, h] at a1
  exact (Option.some.inj a1).symm
end

/-! ### membership -/
noncomputable def rdOf (h : Heap) (v : Value) : D := open Classical in if hx : ∃ d, okD 32 d = true ∧ ∃ as, Reads h v d as then hx.choose else .none
theorem rdOf_eq {h : Heap} {v : Value} {d : D} {as : List Addr} (hc : okD 32 d = true) (r : Reads h v d as) : rdOf h v = d := by
  have hx : ∃ d, okD 32 d = true ∧ ∃ as, Reads h v d as := ⟨d, hc, as, r⟩
  unfold rdOf
  rw [dif_pos hx]
  obtain ⟨_, as', r'⟩ := hx.choose_spec
  exact (reads_one 32 d _ _ _ _ hc r r').symm
theorem any_of {h : Heap} {d : D} : ∀ {vs : List Value} {xs : List D} {as : List Addr}, ReadsAll h vs xs as → xs.all (okD 32) = true → vs.any (fun y => PyData.eqv (rdOf h y) d) = xs.any (fun y => PyData.eqv y d)
  | _, _, _, .nil, _ => rfl
  | _, _, _, .cons r rs, hc => by
    rw [List.all_cons, Bool.and_eq_true] at hc
    rw [List.any_cons, List.any_cons, rdOf_eq hc.1 r, any_of rs hc.2]
theorem items_at {A : Around} {s : Shared} {vs : Array Value} {xs : List D} {as bs : List Addr} {x : Value} {d : D} (rs : ReadsAll s.heap vs.toList xs as) (rx : Reads s.heap x d bs) (hxs : xs.all (okD 32) = true) (hd : okD 32 d = true)
    (hu : A.units + 64 < cLine) : ∀ y, y ∈ vs → EqAt A.in1 s y x (PyData.eqv (rdOf s.heap y) d) := fun y hy => by
  rw [List.all_eq_true] at hxs
  obtain ⟨j, hj, rfl⟩ := Array.mem_iff_getElem.mp hy
  have l := ReadsAll.len rs
  simp only [Array.length_toList] at l
  obtain ⟨cs, r⟩ := ReadsAll.at_ rs j (by simpa using hj) (by omega)
  have hm := hxs _ (List.getElem_mem (l := xs) (by omega : j < xs.length))
  simp only [Array.getElem_toList] at r
  rw [rdOf_eq hm r]
  exact eqAt_ok 32 _ _ A.in1 s _ _ _ _ r rx hm hd (by show A.units + 1 + 32 < cLine; omega)

/-- a text of one sign -/
def signOf (x : Str) : Option Nat := match x.cps.toList with
  | [c] => some c
  | _ => none
theorem signOf_some {x : Str} {c : Nat} (h : signOf x = some c) : x = ⟨#[c]⟩ := by
  unfold signOf at h
  split at h
  · rename_i e
    cases h
    obtain ⟨a⟩ := x
    obtain ⟨l⟩ := a
    simp only at e
    subst e
    rfl
  · cases h
/-- x in c, as a truth -/
def inB : D → D → Option Bool
  | x, .list xs => if okD 32 x && xs.all (okD 32) then some (xs.any fun y => PyData.eqv y x) else none
  | x, .tuple xs => if okD 32 x && xs.all (okD 32) then some (xs.any fun y => PyData.eqv y x) else none
  | x, .dict kvs => (keyOf x).map fun n => dHas kvs n
  | .str x, .str z => (signOf x).map fun c => decide (c ∈ z.cps.toList)
  | _, _ => none
def inD (x c : D) : Option D := (inB x c).map .bool
def notInD (x c : D) : Option D := (inB x c).map fun b => .bool (!b)

section
variable {X : Cx}
theorem od_in (hu : X.A.units + 64 < cLine) : OpD X (compareOp .In) inD := by
  intro pins s σ H x y v u Q I rx ry h
  obtain ⟨d, e, r, hd, he, hg, q⟩ := h
  unfold inD at hg
  cases hb : inB d e with
  | none => rw [hb] at hg; cases hg
  | some b =>
    rw [hb] at hg
    cases hg
    have fin : ∀ t, EP X pins σ Q (.bool b) { s with toks := t } := fun t => ⟨.bl b, H, I.tok t, rfl, q _ _ (Ex.rf H) (.bl b)⟩
    have fin0 : EP X pins σ Q (.bool b) s := fin s.toks
    obtain ⟨as, r1⟩ := hd.reads I rx
    unfold inB at hb
    split at hb
    · split at hb
      · rename_i hf
        rw [Bool.and_eq_true] at hf
        cases hb
        obtain ⟨bs, r2⟩ := he.reads I ry
        cases r2 with
        | list h1 h2 h3 h4 => exact in_listAt _ ⟨_, h1, h2, _, h3⟩ (items_at h4 r1 hf.2 hf.1 hu) (by rw [← Array.any_toList, any_of h4 hf.2]; exact fin0)
      · cases hb
    · split at hb
      · rename_i hf
        rw [Bool.and_eq_true] at hf
        cases hb
        obtain ⟨bs, r2⟩ := he.reads I ry
        cases r2 with
        | tuple h1 h2 h3 h4 => exact in_tupleAt _ ⟨_, h1, h2, _, h3⟩ (items_at h4 r1 hf.2 hf.1 hu) (by rw [← Array.any_toList, any_of h4 hf.2]; exact fin0)
      · cases hb
    · cases hk : keyOf d with
      | none => rw [hk] at hb; cases hb
      | some n =>
        rw [hk] at hb
        cases hb
        obtain ⟨q1, q2⟩ := keyOf_some hk
        obtain ⟨a, es, rfl, h1, h2, h3⟩ := he.dic_
        cases ry
        obtain ⟨ks, e1, hek⟩ := h2.ek I
        show wpAny _ _ (do return Value.bool (← contains (.ref a) v)) _ _ s
        refine wpAny_bind (dcontains (show X.A.units + 1 + 8 < cLine by omega) (hd.nested I rx q1) q2 (rd_dic I h1) hek (ks_nodup e1 h3) fun t => wpAny_pure ?_)
        rw [ks_mem e1]
        exact fin t
    · cases hs : signOf _ with
      | none => rw [hs] at hb; cases hb
      | some c =>
        rw [hs] at hb
        cases hb
        cases signOf_some hs
        cases hd.str_
        cases he.str_
        exact op_in_sign pins s σ H _ _ _ _ _ I rx ry ⟨_, _, rfl, rfl, q _ _ (Ex.rf H) (.bl _)⟩
    · cases hb
theorem od_notIn (hu : X.A.units + 64 < cLine) : OpD X (compareOp .NotIn) notInD := by
  intro pins s σ H x y v u Q I rx ry h
  obtain ⟨d, e, r, hd, he, hg, q⟩ := h
  unfold notInD at hg
  cases hb : inB d e with
  | none => rw [hb] at hg; cases hg
  | some b =>
    rw [hb] at hg
    cases hg
    have fin : ∀ t, EP X pins σ Q (.bool (!b)) { s with toks := t } := fun t => ⟨.bl (!b), H, I.tok t, rfl, q _ _ (Ex.rf H) (.bl (!b))⟩
    have fin0 : EP X pins σ Q (.bool (!b)) s := fin s.toks
    obtain ⟨as, r1⟩ := hd.reads I rx
    unfold inB at hb
    split at hb
    · split at hb
      · rename_i hf
        rw [Bool.and_eq_true] at hf
        cases hb
        obtain ⟨bs, r2⟩ := he.reads I ry
        cases r2 with
        | list h1 h2 h3 h4 => exact notIn_listAt _ ⟨_, h1, h2, _, h3⟩ (items_at h4 r1 hf.2 hf.1 hu) (by rw [← Array.any_toList, any_of h4 hf.2]; exact fin0)
      · cases hb
    · split at hb
      · rename_i hf
        rw [Bool.and_eq_true] at hf
        cases hb
        obtain ⟨bs, r2⟩ := he.reads I ry
        cases r2 with
        | tuple h1 h2 h3 h4 => exact notIn_tupleAt _ ⟨_, h1, h2, _, h3⟩ (items_at h4 r1 hf.2 hf.1 hu) (by rw [← Array.any_toList, any_of h4 hf.2]; exact fin0)
      · cases hb
    · cases hk : keyOf d with
      | none => rw [hk] at hb; cases hb
      | some n =>
        rw [hk] at hb
        cases hb
        obtain ⟨q1, q2⟩ := keyOf_some hk
        obtain ⟨a, es, rfl, h1, h2, h3⟩ := he.dic_
        cases ry
        obtain ⟨ks, e1, hek⟩ := h2.ek I
        show wpAny _ _ (do return Value.bool (!(← contains (.ref a) v))) _ _ s
        refine wpAny_bind (dcontains (show X.A.units + 1 + 8 < cLine by omega) (hd.nested I rx q1) q2 (rd_dic I h1) hek (ks_nodup e1 h3) fun t => wpAny_pure ?_)
        rw [ks_mem e1]
        exact fin t
    · cases hs : signOf _ with
      | none => rw [hs] at hb; cases hb
      | some c =>
        rw [hs] at hb
        cases hb
        cases signOf_some hs
        cases hd.str_
        cases he.str_
        exact op_notIn_sign pins s σ H _ _ _ _ _ I rx ry ⟨_, _, rfl, rfl, q _ _ (Ex.rf H) (.bl _)⟩
    · cases hb
end

/-! ### subscripts -/
def ixD : D → D → Option D
  | .tuple xs, .int i => atI xs i
  | .list xs, .int i => atI xs i
  | .str z, .int i => if fits z.length then (atI z.cps.toList i).map fun c => .str ⟨#[c]⟩ else none
  | .dict kvs, k => (keyOf k).bind fun n => dLook kvs n
  | _, _ => none
theorem DaL.atI_ {K : PySem.W.Frag} {w : World} {H : Hp} {vs : List V} {ds : List D} {i : Int} {d : D} (h : DaL K w H vs ds) (e : atI ds i = some d) : ∃ v, atI vs i = some v ∧ Da K w H v d := by
  unfold atI at e ⊢
  rw [h.length]
  cases e1 : ixN ds.length i with
  | none => rw [e1] at e; cases e
  | some j =>
    rw [e1] at e
    exact h.get e
def rDX (K : PySem.W.Frag) (w : World) (g : D → D → Option D) : R2 := fun x y H Q => ∃ d e r, Sn K w H x d ∧ Sn K w H y e ∧ g d e = some r ∧ ∀ v, Da K w H v r → Q v H
section
variable {X : Cx} {R : Rl X.K X.w} {Ew : Ews} {e a b : Expr} {fa fb : Fe} {pos : Pos}
theorem ixr_D (hu : X.A.units + 64 < cLine) : IxR X (rDX X.K X.w ixD) := by
  intro value slice pins s σ H x y v u Q I rx ry h hs
  obtain ⟨d, e, r, hd, he, hg, q⟩ := h
  unfold ixD at hg
  split at hg
  · obtain ⟨p, xs, rfl, h1, h2⟩ := hd.tup_
    cases he.int_
    obtain ⟨z, hz, hda⟩ := h2.atI_ hg
    exact ix_tup value slice pins s σ H _ _ _ _ Q I rx ry ⟨_, _, _, _, rfl, rfl, h1, hz, q z hda⟩ hs
  · obtain ⟨p, xs, rfl, h1, h2⟩ := hd.lst_
    cases he.int_
    obtain ⟨z, hz, hda⟩ := h2.atI_ hg
    exact ix_list value slice pins s σ H _ _ _ _ Q I rx ry ⟨_, _, _, _, rfl, rfl, .inl h1, hz, q z hda⟩ hs
  · split at hg
    · rename_i hf
      cases hd.str_
      cases he.int_
      cases hc : atI _ _ with
      | none => rw [hc] at hg; cases hg
      | some c =>
        rw [hc] at hg
        cases hg
        exact ix_str value slice pins s σ H _ _ _ _ Q I rx ry ⟨_, _, _, rfl, rfl, fits_le hf, hc, q _ (.str _)⟩ hs
    · cases hg
  · cases hk : keyOf e with
    | none => rw [hk] at hg; cases hg
    | some n =>
      rw [hk] at hg
      have hg : dLook _ n = some r := hg
      obtain ⟨q1, q2⟩ := keyOf_some hk
      obtain ⟨p, es, rfl, h1, h2, h3⟩ := hd.dic_
      cases rx
      obtain ⟨ks, e1, hek⟩ := h2.ek I
      have hin : n ∈ ks := of_decide_eq_true (by rw [ks_mem e1]; exact dLook_has hg)
      obtain ⟨j, hj⟩ := List.mem_iff_getElem?.mp hin
      have hl := (List.getElem?_eq_some_iff.mp hj).1
      have hje : es[j]? = some (es[j]'(by have := hek.1; omega)) := List.getElem?_eq_getElem _
      obtain ⟨dk, z, zv, g1, g2, g3⟩ := h2.get hje
      have g4 := dLook_of_get h3 g1 (ks_at e1 hj g1)
      rw [hg] at g4
      cases g4
      have hD := rd_dic I h1
      refine PyProof.Rows.subscriptTail_builtinR (x := (es[j]'(by have := hek.1; omega)).val) hD.typeIs slot_dict_getitem.lookup (dgetItem (Q := fun r s' => r = (es[j]'(by have := hek.1; omega)).val ∧ EP X pins σ Q r s') (show X.A.units + 1 + 8 < cLine by omega) (he.nested I ry q1) q2 hD hek (ks_nodup e1 h3) hin fun j' e' t hj' he' => ?_) hs
      have : j' = j := (List.getElem?_inj (List.getElem?_eq_some_iff.mp hj').1 (ks_nodup e1 h3)).mp (hj'.trans hj.symm)
      subst this
      rw [hje] at he'
      cases he'
      exact ⟨rfl, zv, H, I.tok t, g2, q zv g3⟩
  · cases hg
theorem ed_ix (hu : X.A.units + 64 < cLine) (ha : PE X a (tE R Ew .sn fa)) (hb : PE X b (tE R Ew .sn fb)) (hs : PlainIx b) : PE X (.Subscript a b pos) (tE R Ew .da (fOp ixD fa fb)) := by
  refine PE.imp (pe_ix (ixr_D hu) ha hb hs) fun σ H Q ⟨δ, p, q⟩ => ?_
  refine tE_then p (Ex.rf H) q fun d v H1 p1 e1 _ r1 q1 => ?_
  refine tE_then p1 e1 q1 fun ds vs H2 p2 e2 e02 r2 q2 => ?_
  obtain ⟨r, hr, q2⟩ := q2.of
  exact ⟨d, ds, r, Sn.ex e2 r1, r2, hr, fun v n => q2 v H2 e02 n⟩

/-! ### slices -/
def cutL {t : Type} (xs : List t) (lo hi : Option Int) : List t := (xs.drop (HT.sIx xs.length 0 lo)).take (HT.sIx xs.length xs.length hi - HT.sIx xs.length 0 lo)
theorem DaL.cut {K : PySem.W.Frag} {w : World} {H : Hp} {vs : List V} {ds : List D} (h : DaL K w H vs ds) (lo hi : Option Int) : DaL K w H (cutV vs lo hi) (cutL ds lo hi) := by
  unfold cutV cutL
  rw [h.length]
  exact (h.drop _).take _
def slD (d : D) (lo hi : Option Int) : Option D := match d with
  | .tuple xs => some (.tuple (cutL xs lo hi))
  | .list xs => some (.list (cutL xs lo hi))
  | .str z => if fits z.length then some (.str (cutS z lo hi)) else none
  | _ => none
def rSlD (K : PySem.W.Frag) (w : World) : V → Option Int → Option Int → Hp → VK → Prop := fun x lo hi H Q => ∃ d r, Sn K w H x d ∧ slD d lo hi = some r ∧ ∀ v H', Ex H H' → Nw K w H H' v r → Q v H'
theorem cutL_whole {t : Type} {xs : List t} {lo hi : Option Int} (h : HT.sIx xs.length 0 lo = 0 ∧ HT.sIx xs.length xs.length hi = xs.length) : cutL xs lo hi = xs := by
  unfold cutL
  rw [h.1, h.2]
  simp
theorem slr_D : SlR X (rSlD X.K X.w) := by
  intro pins s σ H x v vl vu lo hi sl Q I rx hs pl pu h
  obtain ⟨d, r, hd, hg, q⟩ := h
  unfold slD at hg
  split at hg
  · cases hg
    obtain ⟨p, xs, rfl, h1, h2⟩ := hd.tup_
    refine sl_tupA pins s σ H _ _ _ _ _ _ _ _ I rx hs pl pu ⟨p, xs, rfl, h1, fun hw => ?_, fun _ p hp => ?_⟩
    · rw [h2.length] at hw
      rw [cutL_whole hw] at q
      exact q _ _ (Ex.rf H) (.tup (.tup h1 h2))
    · exact q _ _ (Ex.nw hp) (.tup (.tup (.inl (.inl upd_same)) ((h2.cut lo hi).ex (Ex.nw hp))))
  · cases hg
    obtain ⟨p, xs, rfl, h1, h2⟩ := hd.lst_
    exact sl_list pins s σ H _ _ _ _ _ _ _ _ I rx hs pl pu ⟨p, xs, rfl, .inl h1, fun p hp => q _ _ (Ex.nw hp) (.lst hp upd_same ((h2.cut lo hi).ex (Ex.nw hp)))⟩
  · split at hg
    · rename_i hf
      cases hg
      cases hd.str_
      exact sl_str pins s σ H _ _ _ _ _ _ _ _ I rx hs pl pu ⟨_, rfl, fits_le hf, q _ _ (Ex.rf H) (.str _)⟩
    · cases hg
  · cases hg
/-- a bound of a slice -/
abbrev Fo := Dl → Rs (Option Int)
def foNo : Fo := fun _ => .ok none
def intOf : D → Option Int
  | .int i => some i
  | _ => none
def foSome (f : Fe) : Fo := fun δ => f δ >>= fun d => Rs.of (intOf d) >>= fun i => .ok (some i)
def tO (R : Rl X.K X.w) (Ew : Ews) (f : Fo) : TO := fun σ H Q => ∃ δ, R.P σ H δ ∧ Rk (f δ) (EW Ew δ H) fun o => ∀ H', Ex H H' → Q o H'
theorem PO.imp {o : Option Expr} {t t' : TO} (h : PO X o t) (i : ∀ σ H Q, t' σ H Q → t σ H Q) : PO X o t' := ⟨fun pins s σ H Q I q => h.run pins s σ H Q I (i σ H Q q)⟩
theorem eo_no : PO X none (tO R Ew foNo) := PO.imp po_none fun σ H Q ⟨δ, p, q⟩ => q H (Ex.rf H)
theorem eo_some (h : PE X e (tE R Ew .sn fa)) : PO X (some e) (tO R Ew (foSome fa)) := by
  refine PO.imp (po_some h) fun σ H Q ⟨δ, p, q⟩ => ?_
  refine tE_then p (Ex.rf H) q fun d v H1 p1 e1 _ r1 q1 => ?_
  obtain ⟨i, hi, q1⟩ := (Rk.bind q1).of
  cases d with
  | int j =>
    cases hi
    cases Sn.int_ r1
    exact ⟨_, rfl, q1 H1 e1⟩
  | _ => cases hi
theorem tO_then {t : Type} {f : Fo} {k : Option Int → Rs t} {σ : St} {H H0 : Hp} {δ : Dl} {Q : Option Int → Hp → Prop} {KQ : t → Prop} (p : R.P σ H δ) (e0 : Ex H0 H) (h : Rk (f δ >>= k) (EW Ew δ H0) KQ)
    (hk : ∀ b H1, R.P σ H1 δ → Ex H H1 → Ex H0 H1 → Rk (k b) (EW Ew δ H0) KQ → Q b H1) : tO R Ew f σ H Q :=
  ⟨δ, p, (Rk.bind h).mono (fun _ => EW.ex e0) fun d _ q H1 e1 => hk d H1 (R.ex p e1) e1 (e0.tr e1) q⟩
def fSl (fa : Fe) (fl fh : Fo) : Fe := fun δ => fa δ >>= fun d => fl δ >>= fun l => fh δ >>= fun h => Rs.of (slD d l h)
theorem ed_sl {lo hi : Option Expr} {fl fh : Fo} {p2 : Pos} (ha : PE X e (tE R Ew .sn fa)) (hl : PO X lo (tO R Ew fl)) (hh : PO X hi (tO R Ew fh)) : PE X (.Subscript e (.Slice lo hi none p2) pos) (tE R Ew .nw (fSl fa fl fh)) := by
  refine PE.imp (pe_slice slr_D ha hl hh) fun σ H Q ⟨δ, p, q⟩ => ?_
  refine tE_then p (Ex.rf H) q fun d v H1 p1 e1 _ r1 q1 => ?_
  refine tO_then p1 e1 q1 fun l H2 p2 e2 e02 q2 => ?_
  refine tO_then p2 e02 q2 fun h H3 p3 e3 e03 q3 => ?_
  obtain ⟨r, hr, q3⟩ := q3.of
  exact ⟨d, r, Sn.ex (e2.tr e3) r1, hr, fun v H' e' n => q3 v H' (e03.tr e') (Nw.back e03 n)⟩
end
end Hm
/-! Hm9: truths, tests, chains, conditional expressions -/
namespace Hm
open PySem L2 Ob PySem.SeqAt

def blOf : D → Option Bool
  | .bool b => some b
  | _ => none
def truD : D → Option Bool
  | .none => some false
  | .bool b => some b
  | .int i => some (i != 0)
  | .str x => if fits x.length then some ((x.length : Int) != 0) else none
  | .list xs => some (!xs.isEmpty)
  | .tuple xs => some (!xs.isEmpty)
  | .dict _ => none
def bOf (f : Fe) : Ft := fun δ => f δ >>= fun d => Rs.of (blOf d)
def bTr (f : Fe) : Ft := fun δ => f δ >>= fun d => Rs.of (truD d)
def vB (f : Ft) : Fe := fun δ => f δ >>= fun b => .ok (.bool b)
def bAnd (f g : Ft) : Ft := fun δ => f δ >>= fun x => if x = true then g δ else .ok false
def bOr (f g : Ft) : Ft := fun δ => f δ >>= fun x => if x = true then .ok true else g δ
def bNot (f : Ft) : Ft := fun δ => f δ >>= fun x => .ok (!x)
def fIf (c : Ft) (f g : Fe) : Fe := fun δ => c δ >>= fun x => if x = true then f δ else g δ
def bChain (g g' : D → D → Option D) (fa fb fc : Fe) : Ft := fun δ => fa δ >>= fun x => fb δ >>= fun y => Rs.of (g x y) >>= fun r => Rs.of (blOf r) >>= fun k => if k = true then fc δ >>= fun z => Rs.of (g' y z) >>= fun r' => Rs.of (blOf r') else .ok false

section
variable {X : Cx} {R : Rl X.K X.w} {Ew : Ews} {e a b c : Expr} {fa fb fc : Fe} {pos : Pos} {rest : List Expr}
theorem blOf_some {d : D} {k : Bool} (h : blOf d = some k) : d = .bool k := by
  cases d <;> first | (cases h; rfl) | cases h
/-- what is known behind a value that must be a truth -/
theorem sn_bl {K : PySem.W.Frag} {w : World} {H : Hp} {v : V} {d : D} {k : Bool} (h : Sn K w H v d) (e : blOf d = some k) : v = .bl k := by
  cases blOf_some e
  exact h.bl_
theorem ed_b1 {op : BoolOp} (ha : PE X a (tE R Ew .sn fa)) : PE X (.BoolOp op [a] pos) (tE R Ew .nw (vB (bOf fa))) := by
  refine PE.imp (pe_one ha) fun σ H Q ⟨δ, p, q⟩ => ?_
  refine tE_then p (Ex.rf H) (Rk.bind q) fun d v H1 p1 e1 _ r1 q1 => ?_
  obtain ⟨k, hk, q1⟩ := q1.of
  cases sn_bl r1 hk
  exact q1 _ H1 e1 (.bl k)
theorem ed_and {g : Ft} (ha : PE X a (tE R Ew .sn fa)) (hb : PE X (.BoolOp .And (b :: rest) pos) (tE R Ew .nw (vB g))) : PE X (.BoolOp .And (a :: b :: rest) pos) (tE R Ew .nw (vB (bAnd (bOf fa) g))) := by
  refine PE.imp (pe_and ha hb) fun σ H Q ⟨δ, p, q⟩ => ?_
  refine tE_then p (Ex.rf H) (Rk.bind (Rk.bind q)) fun d v H1 p1 e1 _ r1 q1 => ?_
  obtain ⟨k, hk, q1⟩ := q1.of
  refine ⟨k, sn_bl r1 hk, ?_⟩
  cases k with
  | true => exact ⟨δ, p1, (show Rk (vB g δ) _ _ from by
      have q1 : Rk (g δ) (EW Ew δ H) _ := q1
      unfold vB
      cases hg : g δ with
      | bad => rw [hg] at q1; exact q1
      | exc c => rw [hg] at q1; exact EW.ex e1 q1
      | ok k => rw [hg] at q1; exact fun v H' e' r => q1 v H' (e1.tr e') (Res.back (m := .nw) e1 r))⟩
  | false => exact q1 _ H1 e1 (.bl false)
theorem ed_or {g : Ft} (ha : PE X a (tE R Ew .sn fa)) (hb : PE X (.BoolOp .Or (b :: rest) pos) (tE R Ew .nw (vB g))) : PE X (.BoolOp .Or (a :: b :: rest) pos) (tE R Ew .nw (vB (bOr (bOf fa) g))) := by
  refine PE.imp (pe_or ha hb) fun σ H Q ⟨δ, p, q⟩ => ?_
  refine tE_then p (Ex.rf H) (Rk.bind (Rk.bind q)) fun d v H1 p1 e1 _ r1 q1 => ?_
  obtain ⟨k, hk, q1⟩ := q1.of
  refine ⟨k, sn_bl r1 hk, ?_⟩
  cases k with
  | false => exact ⟨δ, p1, (show Rk (vB g δ) _ _ from by
      have q1 : Rk (g δ) (EW Ew δ H) _ := q1
      unfold vB
      cases hg : g δ with
      | bad => rw [hg] at q1; exact q1
      | exc c => rw [hg] at q1; exact EW.ex e1 q1
      | ok k => rw [hg] at q1; exact fun v H' e' r => q1 v H' (e1.tr e') (Res.back (m := .nw) e1 r))⟩
  | true => exact q1 _ H1 e1 (.bl true)

/-! ### truth -/
theorem truV_of {K : PySem.W.Frag} {w : World} {H : Hp} {v : V} {d : D} {k : Bool} (h : Sn K w H v d) (e : truD d = some k) : TruV K v H k := by
  cases d with
  | none => cases e; cases h.non_; rfl
  | bool b => cases e; cases h.bl_; rfl
  | int i => cases e; cases h.int_; rfl
  | str x =>
    cases h.str_
    unfold truD at e
    dsimp only at e
    split at e
    · rename_i hf
      cases e
      exact ⟨fits_le hf, rfl⟩
    · cases e
  | list xs =>
    cases e
    obtain ⟨a, ys, rfl, h1, h2⟩ := h.lst_
    exact .inl ⟨ys, .inl h1, by rw [h2.isEmpty]⟩
  | tuple xs =>
    cases e
    obtain ⟨a, ys, rfl, h1, h2⟩ := h.tup_
    exact .inr (.inl ⟨ys, h1, by rw [h2.isEmpty]⟩)
  | dict kvs => cases e
theorem ed_not (ha : PE X a (tE R Ew .sn fa)) : PE X (.UnaryOp .Not a pos) (tE R Ew .nw (vB (bNot (bTr fa)))) := by
  refine PE.imp (pe_notT ha) fun σ H Q ⟨δ, p, q⟩ => ?_
  refine tE_then p (Ex.rf H) (Rk.bind (Rk.bind q)) fun d v H1 p1 e1 _ r1 q1 => ?_
  obtain ⟨k, hk, q1⟩ := q1.of
  exact ⟨k, truV_of r1 hk, q1 _ H1 e1 (.bl (!k))⟩

/-! ### tests -/
theorem et_tr (ha : PE X a (tE R Ew .sn fa)) (he : ∀ whole, isTrue a X.env whole = (do let v ← whole; standAt a.pos; holding [v] (truthy v)) := by intro _; rfl) : PT X a (tT R Ew (bTr fa)) := by
  refine PT.imp (pt_truth ha he) fun σ H Q ⟨δ, p, q⟩ => ?_
  refine tE_then p (Ex.rf H) q fun d v H1 p1 e1 _ r1 q1 => ?_
  obtain ⟨k, hk, q1⟩ := q1.of
  exact ⟨k, truV_of r1 hk, q1 H1 e1⟩
theorem et_cmp {op : CmpOp} {g : D → D → Option D} (ho : OpD X (compareOp op) g) (ha : PE X a (tE R Ew .sn fa)) (hb : PE X b (tE R Ew .sn fb)) (hm : behindInMarks op b = false) : PT X (.Compare a [op] [b] pos) (tT R Ew (bOf (fOp g fa fb))) := by
  refine PT.imp (pt_cmpR ho ha hb hm) fun σ H Q ⟨δ, p, q⟩ => ?_
  refine tE_then p (Ex.rf H) (Rk.bind q) fun d v H1 p1 e1 _ r1 q1 => ?_
  refine tE_then p1 e1 q1 fun ds vs H2 p2 e2 e02 r2 q2 => ?_
  obtain ⟨r, hr, q2⟩ := q2.of
  obtain ⟨k, hk, q2⟩ := q2.of
  exact ⟨d, ds, r, Sn.ex e2 r1, r2, hr, fun v H' e' n => ⟨k, sn_bl n.sn hk, q2 H' (e02.tr e')⟩⟩
theorem tT_bool {f : Ft} {σ : St} {H0 H : Hp} {δ : Dl} {Q : Bool → Hp → Prop} (p : R.P σ H δ) (e0 : Ex H0 H) (h : Rk (f δ) (EW Ew δ H0) fun b => ∀ H', Ex H0 H' → Q b H') : tT R Ew f σ H Q :=
  ⟨δ, p, h.mono (fun _ => EW.ex e0) fun b _ q H' e' => q H' (e0.tr e')⟩
theorem PW.imp {t t' : TT} (h : PW X e t) (i : ∀ σ H Q, t' σ H Q → t σ H Q) : PW X e t' := ⟨fun wh pins s σ H Q I q => h.run wh pins s σ H Q I (i σ H Q q)⟩
theorem ew_and1 {f : Ft} (ha : PT X a (tT R Ew f)) : PW X (.BoolOp .And [a] pos) (tT R Ew f) := pw_and1 ha
theorem ew_or1 {f : Ft} (ha : PT X a (tT R Ew f)) : PW X (.BoolOp .Or [a] pos) (tT R Ew f) := pw_or1 ha
theorem ew_and {f g : Ft} (ha : PT X a (tT R Ew f)) (hb : PW X (.BoolOp .And (b :: rest) pos) (tT R Ew g)) : PW X (.BoolOp .And (a :: b :: rest) pos) (tT R Ew (bAnd f g)) := by
  refine PW.imp (pw_and ha hb) fun σ H Q ⟨δ, p, q⟩ => ?_
  refine tT_then p (Ex.rf H) q fun k H1 p1 e1 _ q1 => ?_
  cases k with
  | true => exact tT_bool p1 e1 q1
  | false => exact q1 H1 e1
theorem ew_or {f g : Ft} (ha : PT X a (tT R Ew f)) (hb : PW X (.BoolOp .Or (b :: rest) pos) (tT R Ew g)) : PW X (.BoolOp .Or (a :: b :: rest) pos) (tT R Ew (bOr f g)) := by
  refine PW.imp (pw_or ha hb) fun σ H Q ⟨δ, p, q⟩ => ?_
  refine tT_then p (Ex.rf H) q fun k H1 p1 e1 _ q1 => ?_
  cases k with
  | false => exact tT_bool p1 e1 q1
  | true => exact q1 H1 e1
theorem et_not {f : Ft} (ha : PT X a (tT R Ew f)) : PT X (.UnaryOp .Not a pos) (tT R Ew (bNot f)) := by
  refine PT.imp (pt_not ha) fun σ H Q ⟨δ, p, q⟩ => ?_
  exact tT_then p (Ex.rf H) q fun k H1 p1 e1 _ q1 => q1 H1 e1
theorem ed_if {m : Md} {f : Ft} (hc : PT X c (tT R Ew f)) (ha : PE X a (tE R Ew m fa)) (hb : PE X b (tE R Ew m fb)) : PE X (.IfExp c a b pos) (tE R Ew m (fIf f fa fb)) := by
  refine PE.imp (pe_ifExp hc ha hb) fun σ H Q ⟨δ, p, q⟩ => ?_
  refine tT_then p (Ex.rf H) q fun k H1 p1 e1 _ q1 => ?_
  cases k with
  | true => exact ⟨δ, p1, Rk.mono q1 (fun _ => EW.ex e1) fun d _ z v H' e' r => z v H' (e1.tr e') (Res.back e1 r)⟩
  | false => exact ⟨δ, p1, Rk.mono q1 (fun _ => EW.ex e1) fun d _ z v H' e' r => z v H' (e1.tr e') (Res.back e1 r)⟩
/-! ### chains -/
theorem chain_rd {op op' : CmpOp} {g g' : D → D → Option D} {σ : St} {H : Hp} {Q : VK} {δ : Dl} (p : R.P σ H δ) (q : Rk (bChain g g' fa fb fc δ) (EW Ew δ H) fun b => ∀ v H', Ex H H' → v = .bl b → Q v H') :
    tChain (rD2 X.K X.w g) (rD2 X.K X.w g') (tE R Ew .sn fa) (tE R Ew .sn fb) (tE R Ew .sn fc) σ H Q := by
  refine tE_then p (Ex.rf H) q fun d v H1 p1 e1 _ r1 q1 => ?_
  refine tE_then p1 e1 q1 fun d2 v2 H2 p2 e2 e02 r2 q2 => ?_
  obtain ⟨r, hr, q2⟩ := (Rk.bind q2).of
  obtain ⟨k, hk, q2⟩ := (Rk.bind q2).of
  refine ⟨d, d2, r, Sn.ex e2 r1, r2, hr, fun v H3 e3 n => ⟨k, sn_bl n.sn hk, ?_⟩⟩
  cases k with
  | false => exact q2 _ H3 (e02.tr e3) rfl
  | true =>
    refine tE_then (R.ex p2 e3) (e02.tr e3) q2 fun d3 v3 H4 p4 e4 e04 r4 q4 => ?_
    obtain ⟨r', hr', q4⟩ := (Rk.bind q4).of
    obtain ⟨k', hk', q4⟩ := q4.of
    exact ⟨d2, d3, r', Sn.ex (e3.tr e4) r2, r4, hr', fun v H5 e5 n => q4 v H5 (e04.tr e5) (sn_bl n.sn hk')⟩
theorem ed_chain {op op' : CmpOp} {g g' : D → D → Option D} (ho : OpD X (compareOp op) g) (ho' : OpD X (compareOp op') g') (ha : PE X a (tE R Ew .sn fa)) (hb : PE X b (tE R Ew .sn fb)) (hc : PE X c (tE R Ew .sn fc))
    (hm : lastMarks [op, op'] [b, c] = false := by with_unfolding_all rfl) : PE X (.Compare a [op, op'] [b, c] pos) (tE R Ew .nw (vB (bChain g g' fa fb fc))) := by
  refine PE.imp (pe_chain ho ho' ha hb hc hm) fun σ H Q ⟨δ, p, q⟩ => ?_
  exact chain_rd (op := op) (op' := op') p ((Rk.bind q).mono (fun _ z => z) fun k _ z v H' e' ev => by subst ev; exact z _ H' e' (.bl k))
theorem et_chain {op op' : CmpOp} {g g' : D → D → Option D} (ho : OpD X (compareOp op) g) (ho' : OpD X (compareOp op') g') (ha : PE X a (tE R Ew .sn fa)) (hb : PE X b (tE R Ew .sn fb)) (hc : PE X c (tE R Ew .sn fc))
    (hm : lastMarks [op, op'] [b, c] = false := by with_unfolding_all rfl) : PT X (.Compare a [op, op'] [b, c] pos) (tT R Ew (bChain g g' fa fb fc)) := by
  refine PT.imp (pt_chain ho ho' ha hb hc hm) fun σ H Q ⟨δ, p, q⟩ => ?_
  exact chain_rd (op := op) (op' := op') p (q.mono (fun _ z => z) fun k _ z v H' e' ev => ⟨k, ev, z H' e'⟩)
end
end Hm
/-! Hm10: calls of built-ins -/
namespace Hm
open PySem L2 Ob PySem.SeqAt

/-! ### calls on data -/
inductive SnL (K : PySem.W.Frag) (w : World) (H : Hp) : List V → List D → Prop
  | nil : SnL K w H [] []
  | cons {v : V} {vs : List V} {d : D} {ds : List D} : Sn K w H v d → SnL K w H vs ds → SnL K w H (v :: vs) (d :: ds)
theorem Ags.snL {K : PySem.W.Frag} {w : World} {H : Hp} : ∀ {ms : List Md} {vs : List V} {ds : List D}, Ags K w H ms vs ds → SnL K w H vs ds
  | _, _, _, .nil => .nil
  | _, _, _, .da h a => .cons (.da h) (Ags.snL a)
  | _, _, _, .sn h a => .cons h (Ags.snL a)
theorem SnL.one {K : PySem.W.Frag} {w : World} {H : Hp} {vs : List V} {d : D} (h : SnL K w H vs [d]) : ∃ v, vs = [v] ∧ Sn K w H v d := by
  cases h with
  | cons h a => cases a; exact ⟨_, rfl, h⟩
theorem SnL.two {K : PySem.W.Frag} {w : World} {H : Hp} {vs : List V} {d e : D} (h : SnL K w H vs [d, e]) : ∃ v u, vs = [v, u] ∧ Sn K w H v d ∧ Sn K w H u e := by
  cases h with
  | cons h a => cases a with
    | cons k a => cases a; exact ⟨_, _, rfl, h, k⟩
def rDC (K : PySem.W.Frag) (w : World) (g : List D → Option D) : List V → Hp → VK → Prop := fun vs H Q => ∃ ds r, SnL K w H vs ds ∧ g ds = some r ∧ ∀ v H', Ex H H' → Nw K w H H' v r → Q v H'
abbrev CallD (X : Cx) (f : Value) (g : List D → Option D) : Prop := CallR X f (rDC X.K X.w g)
def fCall (g : List D → Option D) (fa : Fa) : Fe := fun δ => fa δ >>= fun ds => Rs.of (g ds)
def g1 (g : D → Option D) : List D → Option D
  | [d] => g d
  | _ => none
def g2 (g : D → D → Option D) : List D → Option D
  | [d, e] => g d e
  | _ => none
section
variable {X : Cx} {R : Rl X.K X.w} {Ew : Ews} {e a b : Expr} {es : List Expr} {fa : Fa} {ms : List Md} {pos p1 : Pos} {x : Str} {id T : String} {g : List D → Option D}
theorem call_imp {σ : St} {H : Hp} {Q : VK} (h : tE R Ew .nw (fCall g fa) σ H Q) : tCB (rDC X.K X.w g) (tA R Ew ms fa) σ H Q := by
  obtain ⟨δ, p, q⟩ := h
  refine tA_then p (Ex.rf H) q fun ds vs H1 p1 e1 _ r1 q1 => ?_
  obtain ⟨r, hr, q1⟩ := q1.of
  exact ⟨ds, r, r1.snL, hr, fun v H' e' n => q1 v H' (e1.tr e') (Nw.back e1 n)⟩
theorem ed_callB (hc : CallD X (.builtin id) g) (hg : Gl X x) (hm : X.mg x = none) (hv : bootBuiltins x = some (.builtin id)) (ha : PA X (e :: es) (tA R Ew ms fa)) (hn : x ≠ "__name__" := by decide) (hdb : (x == ("__debug__" : Str)) = false := by decide)
    (hs : starEach (e :: es) X.env = (false, eval e X.env) :: starEach es X.env := by rfl) (hplain : (backTo pos (starEach es X.env)).any (·.1) = false := by rfl) : PE X (.Call (.Name x p1) (e :: es) [] pos) (tE R Ew .nw (fCall g fa)) :=
  PE.imp (pe_callB hc hg hm hv ha hn hdb hs hplain) fun _ _ _ h => call_imp h
theorem ed_callTy (hc : CallD X (.type T) g) (hg : Gl X x) (hm : X.mg x = none) (hv : bootBuiltins x = some (.type T)) (ha : PA X (e :: es) (tA R Ew ms fa)) (hn : x ≠ "__name__" := by decide) (hdb : (x == ("__debug__" : Str)) = false := by decide)
    (hs : starEach (e :: es) X.env = (false, eval e X.env) :: starEach es X.env := by rfl) (hplain : (backTo pos (starEach es X.env)).any (·.1) = false := by rfl) :
    PE X (.Call (.Name x p1) (e :: es) [] pos) (tE R Ew .nw (fCall g fa)) :=
  PE.imp (pe_callTy hc hg hm hv ha hn hdb hs hplain) fun _ _ _ h => call_imp h
end

/-! ### len, tuple, list, int, ord, str -/
def lenD : D → Option D
  | .str x => if fits x.length then some (.int x.length) else none
  | .list xs => some (.int xs.length)
  | .tuple xs => some (.int xs.length)
  | _ => none
def tupleD : D → Option D
  | .list xs => some (.tuple xs)
  | .tuple xs => some (.tuple xs)
  | _ => none
def listD : D → Option D
  | .list xs => some (.list xs)
  | .tuple xs => some (.list xs)
  | _ => none
def intD : D → Option D
  | .int i => some (.int i)
  | .bool b => some (.int (if b then 1 else 0))
  | _ => none
section
variable {X : Cx}
theorem cd_len : CallD X (.builtin "len") (g1 lenD) := by
  intro pins s σ H xs us Q I r h
  obtain ⟨ds, d, hs, hg, q⟩ := h
  match ds, hg with
  | [d], hg =>
    obtain ⟨v, rfl, h⟩ := hs.one
    have hg : lenD d = some _ := hg
    unfold lenD at hg
    split at hg
    · split at hg
      · rename_i hf
        cases hg
        cases h.str_
        exact call_len pins s σ H _ us Q I r ⟨_, _, rfl, ⟨fits_le hf, rfl⟩, q _ _ (Ex.rf H) (.int _)⟩
      · cases hg
    · cases hg
      obtain ⟨a, ys, rfl, h1, h2⟩ := h.lst_
      rw [← h2.length] at q
      exact call_len pins s σ H _ us Q I r ⟨_, _, rfl, .inl ⟨_, .inl h1, rfl⟩, q _ _ (Ex.rf H) (.int _)⟩
    · cases hg
      obtain ⟨a, ys, rfl, h1, h2⟩ := h.tup_
      rw [← h2.length] at q
      exact call_len pins s σ H _ us Q I r ⟨_, _, rfl, .inr ⟨_, h1, rfl⟩, q _ _ (Ex.rf H) (.int _)⟩
    · cases hg
theorem cd_tuple : CallD X (.type "tuple") (g1 tupleD) := by
  intro pins s σ H xs us Q I r h
  obtain ⟨ds, d, hs, hg, q⟩ := h
  match ds, hg with
  | [d], hg =>
    obtain ⟨v, rfl, h⟩ := hs.one
    have hg : tupleD d = some _ := hg
    unfold tupleD at hg
    split at hg
    · cases hg
      obtain ⟨a, ys, rfl, h1, h2⟩ := h.lst_
      exact call_tuple_of pins s σ H _ us Q I r ⟨a, ys, rfl, .inl ⟨.inl h1, fun l hl => q _ _ (Ex.nw hl) (.tup (.tup (.inl (.inl upd_same)) (h2.ex (Ex.nw hl))))⟩⟩
    · cases hg
      obtain ⟨a, ys, rfl, h1, h2⟩ := h.tup_
      exact call_tuple_of pins s σ H _ us Q I r ⟨a, ys, rfl, .inr ⟨h1, q _ _ (Ex.rf H) (.tup (.tup h1 h2))⟩⟩
    · cases hg
theorem cd_list : CallD X (.type "list") (g1 listD) := by
  intro pins s σ H xs us Q I r h
  obtain ⟨ds, d, hs, hg, q⟩ := h
  match ds, hg with
  | [d], hg =>
    obtain ⟨v, rfl, h⟩ := hs.one
    have hg : listD d = some _ := hg
    unfold listD at hg
    split at hg
    · cases hg
      obtain ⟨a, ys, rfl, h1, h2⟩ := h.lst_
      exact call_list_of pins s σ H _ us Q I r ⟨a, ys, rfl, .inl (.inl h1), fun l hl => q _ _ (Ex.nw hl) (.lst hl upd_same (h2.ex (Ex.nw hl)))⟩
    · cases hg
      obtain ⟨a, ys, rfl, h1, h2⟩ := h.tup_
      exact call_list_of pins s σ H _ us Q I r ⟨a, ys, rfl, .inr h1, fun l hl => q _ _ (Ex.nw hl) (.lst hl upd_same (h2.ex (Ex.nw hl)))⟩
    · cases hg
theorem cd_int : CallD X (.type "int") (g1 intD) := by
  intro pins s σ H xs us Q I r h
  obtain ⟨ds, d, hs, hg, q⟩ := h
  match ds, hg with
  | [d], hg =>
    obtain ⟨v, rfl, h⟩ := hs.one
    have hg : intD d = some _ := hg
    unfold intD at hg
    split at hg
    · cases hg
      cases h.int_
      exact call_int1 pins s σ H _ us Q I r (.inl ⟨_, rfl, q _ _ (Ex.rf H) (.int _)⟩)
    · cases hg
      cases h.bl_
      exact call_int1 pins s σ H _ us Q I r (.inr ⟨_, rfl, q _ _ (Ex.rf H) (.int _)⟩)
    · cases hg
end

/-! ### isinstance -/
inductive Ty5 where
  | tuple | str | int | bool | list
def Ty5.nm : Ty5 → String
  | .tuple => "tuple"
  | .str => "str"
  | .int => "int"
  | .bool => "bool"
  | .list => "list"
def isiB : Ty5 → D → Option Bool
  | _, .dict _ => none
  | .tuple, .tuple _ => some true
  | .str, .str _ => some true
  | .int, .int _ => some true
  | .int, .bool _ => some true
  | .bool, .bool _ => some true
  | .list, .list _ => some true
  | _, _ => some false
def tyN : D → String
  | .none => "NoneType"
  | .bool _ => "bool"
  | .int _ => "int"
  | .str _ => "str"
  | .list _ => "list"
  | .tuple _ => "tuple"
  | .dict _ => "dict"
theorem kit_isi {K : PySem.W.Frag} (t : Ty5) (d : D) (b : Bool) (h : isiB t d = some b) : PySem.W.kitOne K (.type (tyN d)) (.type t.nm) = some b := by
  refine kit_ty ?_
  cases t <;> cases d <;> first | (cases h; done) | (cases h; simp only [tyN, Ty5.nm]; decide +kernel)
theorem tyX_of {K : PySem.W.Frag} {w : World} {H : Hp} {v : V} {d : D} (h : Sn K w H v d) (hd : ∀ kvs, d ≠ .dict kvs) : TyX K H v (.type (tyN d)) := by
  cases h with
  | da h =>
    cases h with
    | non => exact .base .non
    | bl b => exact .base (.bl b)
    | int b => exact .base (.int b)
    | str b => exact .base (.str b)
    | tup h a =>
      rcases h with (h | ⟨o, h⟩) | ⟨o, its, n, e, c, _⟩
      · exact .base (.tup h)
      · exact .fTuple h
      · exact .kTuple e c
    | lst h a => exact .base (.frz h)
    | dic h a n => exact absurd rfl (hd _)
  | lst h a => exact .base (.lst h)
  | dic h a n => exact absurd rfl (hd _)
section
variable {X : Cx} {R : Rl X.K X.w} {Ew : Ews} {e : Expr} {fa : Fe} {pos p1 p2 p3 p4 p5 : Pos}
def fIsi (t : Ty5) (fa : Fe) : Fe := fun δ => fa δ >>= fun d => Rs.of (isiB t d) >>= fun b => .ok (.bool b)
theorem isiB_dic {t : Ty5} {d : D} {b : Bool} (h : isiB t d = some b) : ∀ kvs, d ≠ .dict kvs := fun kvs e => by subst e; cases t <;> cases h
theorem ed_isi (t : Ty5) {x : Str} (ha : PE X e (tE R Ew .sn fa)) (hg : Gl X "isinstance") (hm : X.mg "isinstance" = none) (hgt : Gl X x) (hmt : X.mg x = none) (hbt : bootBuiltins x = some (.type t.nm))
    (hn : x ≠ "__name__" := by decide) (hd : (x == ("__debug__" : Str)) = false := by decide) (hs : starEach [e, .Name x p2] X.env = (false, eval e X.env) :: starEach [.Name x p2] X.env := by rfl) :
    PE X (.Call (.Name "isinstance" p1) [e, .Name x p2] [] pos) (tE R Ew .nw (fIsi t fa)) := by
  refine PE.imp (pe_callB (r := rIsi X.K) (id := "isinstance") call_isi hg hm (by decide +kernel) (pa_cons ha (pa_cons (pe_bltn (v := .ty t.nm) hgt hmt hbt rfl hn hd) pa_nil) hs) (by decide) (by decide) hs) fun σ H Q ⟨δ, p, q⟩ => ?_
  refine tE_then p (Ex.rf H) q fun d v H1 p1 e1 _ r1 q1 => ?_
  obtain ⟨b, hb, q1⟩ := (Rk.bind q1).of
  exact ⟨v, .ty t.nm, _, _, b, rfl, .ty _, tyX_of r1 (isiB_dic hb), kit_isi t d b hb, q1 _ H1 e1 (.bl b)⟩
/-- isinstance(x, (int, str)) -/
def fIsi2 (t u : Ty5) (fa : Fe) : Fe := fun δ => fa δ >>= fun d => Rs.of (isiB t d) >>= fun b => Rs.of (isiB u d) >>= fun c => .ok (.bool (b || c))
theorem ed_isi2 (t u : Ty5) {x y : Str} {k : Nat} (ha : PE X e (tE R Ew .sn fa)) (hg : Gl X "isinstance") (hm : X.mg "isinstance" = none) (hgt : Gl X x) (hmt : X.mg x = none) (hbt : bootBuiltins x = some (.type t.nm))
    (hgu : Gl X y) (hmu : X.mg y = none) (hbu : bootBuiltins y = some (.type u.nm))
    (hn : x ≠ "__name__" := by decide) (hd : (x == ("__debug__" : Str)) = false := by decide) (hn2 : y ≠ "__name__" := by decide) (hd2 : (y == ("__debug__" : Str)) = false := by decide)
    (hs : starEach [e, .Tuple [.Name x p2, .Name y p3] k p4] X.env = (false, eval e X.env) :: starEach [.Tuple [.Name x p2, .Name y p3] k p4] X.env := by rfl) :
    PE X (.Call (.Name "isinstance" p1) [e, .Tuple [.Name x p2, .Name y p3] k p4] [] pos) (tE R Ew .nw (fIsi2 t u fa)) := by
  refine PE.imp (pe_callB (r := rIsiT X.K) (id := "isinstance") call_isiT hg hm (by decide +kernel) (pa_cons ha (pa_cons (pe_tup (pa_cons (pe_bltn (v := .ty t.nm) hgt hmt hbt rfl hn hd) (pa_cons (pe_bltn (v := .ty u.nm) hgu hmu hbu rfl hn2 hd2) pa_nil))) pa_nil) hs) (by decide) (by decide) hs) fun σ H Q ⟨δ, p, q⟩ => ?_
  refine tE_then p (Ex.rf H) q fun d v H1 p1 e1 _ r1 q1 => ?_
  obtain ⟨b, hb, q1⟩ := (Rk.bind q1).of
  obtain ⟨c, hc, q1⟩ := (Rk.bind q1).of
  refine ⟨by show 2 ≤ sizeLine; decide, fun tp htp => ⟨v, tp, _, _, _, (b || c), rfl, upd_same, .cons (.ty _) (.cons (.ty _) .nil), tyX_of (Sn.ex (Ex.nw htp) r1) (isiB_dic hb), ?_, q1 _ _ (e1.tr (Ex.nw htp)) (.bl _)⟩⟩
  cases b with
  | true => exact kitAny_cons (kit_isi t d true hb) (fun z => by cases z) fun _ => rfl
  | false =>
    refine kitAny_cons (kit_isi t d false hb) (fun _ => ?_) (fun z => by cases z)
    refine kitAny_cons (r := c) (kit_isi u d c hc) (fun z => ?_) fun z => z
    rw [z]; exact kitAny_nil
end

/-! ### sorted -/
def isSt : D → Bool
  | .tuple [.int _, .str _] => true
  | _ => false
def leSt : D → D → Bool
  | .tuple [.int n, .str a], .tuple [.int m, .str b] => !ltSt m b n a
  | _, _ => true
def sortS (xs : List D) : List D := xs.mergeSort leSt
theorem isSt_ex {d : D} (h : isSt d = true) : ∃ n a, d = .tuple [.int n, .str a] := by
  unfold isSt at h
  split at h
  · exact ⟨_, _, rfl⟩
  · cases h
theorem dataLt_st (n m : Int) (a b : Str) : PySem.W.dataLt (.tuple [.int n, .str a]) (.tuple [.int m, .str b]) = ltSt n a m b := by
  rw [PySem.W.dataLt_pair (by simp [PySem.W.alike]) (by simp [PySem.W.alike]), PySem.W.dataLt_int, PySem.W.dataLt_str]
  unfold ltSt
  simp only [PyData.eqv, beq_iff_eq]
  by_cases h : n = m
  · subst h
    by_cases g : a = b
    · subst g; simp
    · simp [g]
  · simp [h]
def sortedD : D → Option D
  | .list xs => if xs.all isSt && fits xs.length then some (.list (sortS xs)) else none
  | .dict kvs => if (kvs.map (·.1)).all isSt && fits kvs.length then some (.list (sortS (kvs.map (·.1)))) else none
  | _ => none
end Hm
/-! Hm11: sorted, all, any, max -/
namespace Hm
open PySem L2 Ob PySem.SeqAt

/-! ### sorted -/
theorem DaL.each {K : PySem.W.Frag} {w : World} {H : Hp} : ∀ {vs : List V} {ds : List D}, DaL K w H vs ds → ∀ b ∈ vs.zip ds, Da K w H b.1 b.2
  | _, _, .nil, b, h => by simp at h
  | _, _, .cons h a, b, hb => by
    rw [List.zip_cons_cons] at hb
    rcases List.mem_cons.mp hb with rfl | hb
    · exact h
    · exact DaL.each a b hb
theorem DaL.ofEach {K : PySem.W.Frag} {w : World} {H : Hp} : ∀ {l : List (V × D)}, (∀ b ∈ l, Da K w H b.1 b.2) → DaL K w H (l.map (·.1)) (l.map (·.2))
  | [], _ => .nil
  | b :: l, h => .cons (h b List.mem_cons_self) (DaL.ofEach fun c hc => h c (List.mem_cons_of_mem _ hc))
theorem each_vals : ∀ {us : List Value} {l : List (V × D)}, PySem.W.EachIs (fun u (b : V × D) => RelV b.1 u) us l → Vals (l.map (·.1)) us
  | _, _, .nil => .nil
  | _, _, .cons r t => .cons r (each_vals t)
theorem vals_each {ds : List D} : ∀ {vs : List V} {us : List Value} {ds : List D}, Vals vs us → vs.length = ds.length → PySem.W.EachIs (fun u (b : V × D) => RelV b.1 u) us (vs.zip ds)
  | _, _, _, .nil, _ => by simp; exact .nil
  | _, _, [], .cons r t, h => by simp at h
  | _, _, d :: ds, .cons r t, h => by
    rw [List.zip_cons_cons]
    exact .cons r (vals_each (ds := ds) t (by simpa using h))
section
variable {X : Cx}
theorem sorted_st {pins : List (Addr × Obj)} {s : Shared} {σ : St} {H : Hp} {Q : VK} {a : Addr} {its : List Value} {n : Nat} {ys : List V} {xs : List D} (hu : X.A.units + 64 < cLine) (I : Inv X pins σ H s) (rv : Vals ys its)
    (e1 : s.heap.get? a = some { cls := .type "list", data := .seq its.toArray n }) (h2 : DaL X.K X.w H ys xs) (hst : xs.all isSt = true) (hz : xs.length ≤ sizeLine)
    (q : ∀ v H', Ex H H' → Nw X.K X.w H H' v (.list (sortS xs)) → Q v H') : wpAny (model X.prog X.w) X.A (call (.builtin "sorted") [.ref a]) (EP X pins σ Q) X.xe s := by
  rw [List.all_eq_true] at hst
  have hl := h2.length
  have l1 := rv.length
  have hsnd : (ys.zip xs).map (·.2) = xs := List.map_snd_zip (by omega)
  have hmem : ∀ b ∈ ys.zip xs, isSt b.2 = true := fun b hb => hst _ (by rw [← hsnd]; exact List.mem_map.mpr ⟨b, hb, rfl⟩)
  have hlen : (ys.zip xs).length = xs.length := by rw [List.length_zip]; omega
  have er : PySem.W.EachIs (fun u (b : V × D) => ∃ as, Reads s.heap u b.2 as) its (ys.zip xs) := by
    refine PySem.W.EachIs.of_zip (by rw [hlen]; omega) fun p hp => ?_
    have r := PySem.W.EachIs.zip (vals_each (ds := xs) rv hl) p hp
    have hb : p.2 ∈ ys.zip xs := by
      have := List.of_mem_zip (show (p.1, p.2) ∈ its.zip (ys.zip xs) from hp)
      exact this.2
    exact (h2.each _ hb).reads I r
  have al : ∀ d d' : D, isSt d = true → isSt d' = true → PySem.W.alike d d' = true := fun d d' h h' => by
    obtain ⟨n, a, rfl⟩ := isSt_ex h
    obtain ⟨m, b, rfl⟩ := isSt_ex h'
    simp [PySem.W.alike, PySem.W.alikeAll]
  have hle : ∀ a ∈ ys.zip xs, ∀ b ∈ ys.zip xs, PySem.W.dataLe false (fun b : V × D => b.2) a b = leSt a.2 b.2 := fun a ha b hb => by
    obtain ⟨n, a', h⟩ := isSt_ex (hmem a ha)
    obtain ⟨m, b', h'⟩ := isSt_ex (hmem b hb)
    show (!PySem.W.dataLt b.2 a.2) = leSt a.2 b.2
    rw [h, h', dataLt_st]
    rfl
  refine PySem.W.sorted_data (R := fun u (b : V × D) => RelV b.1 u) (enc := fun b : V × D => b.2) (bs := ys.zip xs) (vs := its) ⟨_, e1, rfl, _, rfl⟩ (vals_each (ds := xs) rv hl) er
    (fun d hd d' hd' => ?_) (.inl fun d hd => ?_) (by rw [hlen]; exact hz) (fun b hb => ?_) fun out ho eo => ?_
  · obtain ⟨b, hb, rfl⟩ := List.mem_map.mp hd
    obtain ⟨b', hb', rfl⟩ := List.mem_map.mp hd'
    exact al _ _ (hmem b hb) (hmem b' hb')
  · obtain ⟨b, hb, rfl⟩ := List.mem_map.mp hd
    obtain ⟨n, a, h⟩ := isSt_ex (hmem b hb)
    exact ⟨_, _, h⟩
  · obtain ⟨n, a, h⟩ := isSt_ex (hmem b hb)
    rw [h]
    show X.A.units + 2 + PyData.depth _ < cLine
    simp [PyData.depth, PyData.depthAll]
    omega
  · obtain ⟨ep, he'⟩ := PyProof.Rows.sortedAll_at s.heap its out.toArray
    have hv := each_vals eo
    have hda : DaL X.K X.w H ((List.mergeSort (ys.zip xs) (PySem.W.dataLe false fun b : V × D => b.2)).map (·.1)) ((List.mergeSort (ys.zip xs) (PySem.W.dataLe false fun b : V × D => b.2)).map (·.2)) :=
      DaL.ofEach fun b hb => h2.each b (List.mem_mergeSort.mp hb)
    rw [List.map_mergeSort (s := leSt) (f := fun b : V × D => b.2) hle, hsnd] at hda
    have hn : H (s.heap.objs.size + 1) = none := I.hok.fresh (Nat.le_succ _)
    refine ⟨.ref _, upd H (s.heap.objs.size + 1) (.lst _), I.laid (t' := s.toks) (fun _ _ => PyProof.Rows.sortedAll_old) (Nat.le_succ _) ⟨?_, out, ep, hv, by simpa using he'⟩, rfl, q _ _ (Ex.nw hn) (.lst hn upd_same (hda.ex (Ex.nw hn)))⟩
    rw [List.length_map, List.length_mergeSort, hlen]
    exact hz
theorem DaE.keys {K : PySem.W.Frag} {w : World} {H : Hp} : ∀ {es : List DictEntry} {kvs : List (D × D)}, DaE K w H es kvs → ∃ ys : List V, Vals ys (es.map (·.key)) ∧ DaL K w H ys (kvs.map (·.1))
  | _, _, .nil => ⟨[], .nil, .nil⟩
  | _, _, .cons (k := k) r1 h1 _ _ _ a => by
    obtain ⟨ys, h2, h3⟩ := DaE.keys a
    exact ⟨k :: ys, .cons r1 h2, .cons h1 h3⟩
theorem reads_st {h : Heap} {v : Value} {d : D} {as : List Addr} (hd : isSt d = true) (r : Reads h v d as) : as = [] := by
  obtain ⟨n, a, rfl⟩ := isSt_ex hd
  cases r with
  | tuple h1 h2 h3 h4 =>
    rename_i vs _
    generalize vs.toList = l at h4
    cases h4 with
    | cons q1 h4 => cases h4 with
      | cons q2 h4 => cases h4; cases q1; cases q2; rfl
theorem sorted_dic {pins : List (Addr × Obj)} {s : Shared} {σ : St} {H : Hp} {Q : VK} {a : Addr} {es : List DictEntry} {kvs : List (D × D)} (hu : X.A.units + 64 < cLine) (hc : X.calm = true) (I : Inv X pins σ H s) (hD : DicAt a es s.heap) (h2 : DaE X.K X.w H es kvs)
    (hst : (kvs.map (·.1)).all isSt = true) (hz : kvs.length ≤ sizeLine) (q : ∀ v H', Ex H H' → Nw X.K X.w H H' v (.list (sortS (kvs.map (·.1)))) → Q v H') : wpAny (model X.prog X.w) X.A (call (.builtin "sorted") [.ref a]) (EP X pins σ Q) X.xe s := by
  rw [List.all_eq_true] at hst
  obtain ⟨lo, _, o, ep, ho, hx, hd⟩ := hD
  have hraw : s.heap.DictRaw a es.toArray ep := ⟨o, ho, hx, hd⟩
  have hlen := h2.length
  obtain ⟨ys, rv, hda⟩ := h2.keys
  generalize hxs : kvs.map (·.1) = xs at hst hda q
  have hxl : xs.length = kvs.length := by rw [← hxs, List.length_map]
  have hl := hda.length
  refine PySem.Calls.call_function_entry PyProof.Rows.kind_sorted PyProof.Rows.plain_sorted PyProof.Rows.entry_sorted (PyProof.Rows.args_sorted1 _) ?_
  unfold Builtin.«sorted»
  refine wpAny_bind (m := checkCount "sorted" 1 1 _) (wpAny_pure ?_)
  refine wpAny_bind (PySem.W.kdu_collect (A := X.A.in1) (PySem.KdlSrc.rawDict (es := es.toArray) (ep := ep) lo) (I.ok.hd hc) hraw (by rw [List.size_toArray, hlen]; exact hz) fun h' tk acc hk hacc => ?_)
  have hacc2 : acc.toList = es.map (·.key) := by
    refine List.ext_getElem? fun j => ?_
    rw [List.getElem?_map]
    by_cases hj : j < es.length
    · have hja : j < acc.size := by rw [hacc.1, List.size_toArray]; exact hj
      obtain ⟨hi, e⟩ := hacc.2 j acc[j] (by simp [hja])
      simp only [List.getElem_toArray] at e
      simp [hj, hja, e]
    · have hja : ¬ j < acc.size := by rw [hacc.1, List.size_toArray]; exact hj
      simp [hj, hja]
  rw [hacc2]
  refine wpAny_bind (wpAny_newList ?_ (by rw [List.length_map, hlen]; exact hz))
  have l1 := rv.length
  generalize hits : es.map (·.key) = its at rv l1
  have hob : (h'.push { cls := .type "list", data := .seq its.toArray }).get? h'.objs.size = some (PyProof.Rows.seqObj "list" its.toArray 0) := Heap.get?_push_size _ rfl
  have kb : ∀ b o, s.heap.get? b = some o → (h'.push { cls := .type "list", data := .seq its.toArray }).get? b = some o := fun b o e => Heap.get?_push_of_some _ (hk b o e)
  have hn : H h'.objs.size = none := (I.hok.kept hk).fresh (Nat.le_refl _)
  have hn0 : s.heap.get? h'.objs.size = none := by
    cases e : s.heap.get? h'.objs.size with
    | none => rfl
    | some o => exact absurd (Heap.lt_size (hk _ _ e)) (Nat.lt_irrefl _)
  have hsnd : (ys.zip xs).map (·.2) = xs := List.map_snd_zip (by omega)
  have hmem : ∀ b ∈ ys.zip xs, isSt b.2 = true := fun b hb => hst _ (by rw [← hsnd]; exact List.mem_map.mpr ⟨b, hb, rfl⟩)
  have hzl : (ys.zip xs).length = xs.length := by rw [List.length_zip]; omega
  have er : PySem.W.EachIs (fun u (b : V × D) => ∃ as, Reads (h'.push { cls := .type "list", data := .seq its.toArray }) u b.2 as ∧ h'.objs.size ∉ as) its (ys.zip xs) := by
    refine PySem.W.EachIs.of_zip (by rw [hzl]; omega) fun p hp => ?_
    have r := PySem.W.EachIs.zip (vals_each (ds := xs) rv hl) p hp
    have hb : p.2 ∈ ys.zip xs := by
      have := List.of_mem_zip (show (p.1, p.2) ∈ its.zip (ys.zip xs) from hp)
      exact this.2
    obtain ⟨as, rd⟩ := (hda.each _ hb).reads I r
    have hn := reads_st (hmem _ hb) rd
    subst hn
    exact ⟨[], PyProof.Rows.Reads.keeps (fun b o e => kb b o e) rd, by simp⟩
  have al : ∀ d d' : D, isSt d = true → isSt d' = true → PySem.W.alike d d' = true := fun d d' h h' => by
    obtain ⟨n, a, rfl⟩ := isSt_ex h
    obtain ⟨m, b, rfl⟩ := isSt_ex h'
    simp [PySem.W.alike, PySem.W.alikeAll]
  have hle : ∀ a ∈ ys.zip xs, ∀ b ∈ ys.zip xs, PySem.W.dataLe false (fun b : V × D => b.2) a b = leSt a.2 b.2 := fun a ha b hb => by
    obtain ⟨n, a', h⟩ := isSt_ex (hmem a ha)
    obtain ⟨m, b', h'⟩ := isSt_ex (hmem b hb)
    show (!PySem.W.dataLt b.2 a.2) = leSt a.2 b.2
    rw [h, h', dataLt_st]
    rfl
  refine wpAny_bind (wpAny_holding (PySem.W.list_sort_data (s := { s with heap := h'.push { cls := .type "list", data := .seq its.toArray }, toks := tk }) (R := fun u (b : V × D) => RelV b.1 u) (enc := fun b : V × D => b.2) (bs := ys.zip xs) (vs := its) hob (vals_each (ds := xs) rv hl) er
    (fun d hd d' hd' => ?_) (.inl fun d hd => ?_) (by rw [hzl, hxl]; exact hz) (fun b hb => ?_) fun out ho2 eo => ?_))
  · obtain ⟨b, hb, rfl⟩ := List.mem_map.mp hd
    obtain ⟨b', hb', rfl⟩ := List.mem_map.mp hd'
    exact al _ _ (hmem b hb) (hmem b' hb')
  · obtain ⟨b, hb, rfl⟩ := List.mem_map.mp hd
    obtain ⟨n, a, h⟩ := isSt_ex (hmem b hb)
    exact ⟨_, _, h⟩
  · obtain ⟨n, a, h⟩ := isSt_ex (hmem b hb)
    rw [h]
    show X.A.units + 1 + 1 + PyData.depth _ < cLine
    simp [PyData.depth, PyData.depthAll]
    omega
  · refine wpAny_pure ⟨_, rfl, ?_⟩
    obtain ⟨ep2, he'⟩ := PyProof.Rows.sortedHeap_at (vs := its) (out := out.toArray) hob
    have hv := each_vals eo
    have hda2 : DaL X.K X.w H ((List.mergeSort (ys.zip xs) (PySem.W.dataLe false fun b : V × D => b.2)).map (·.1)) ((List.mergeSort (ys.zip xs) (PySem.W.dataLe false fun b : V × D => b.2)).map (·.2)) :=
      DaL.ofEach fun b hb => hda.each b (List.mem_mergeSort.mp hb)
    rw [List.map_mergeSort (s := leSt) (f := fun b : V × D => b.2) hle, hsnd] at hda2
    refine ⟨.ref _, upd H h'.objs.size (.lst _), I.laidN (t' := tk) (fun b u e => ?_) hn0 hn ⟨?_, out, ep2, hv, by simpa using he'⟩, rfl, q _ _ (Ex.nw hn) (.lst hn upd_same (hda2.ex (Ex.nw hn)))⟩
    · have hb : b ≠ h'.objs.size := fun z => by rw [z, hn0] at e; cases e
      rw [PyProof.Rows.sortedHeap_old hb (Heap.lt_size (kb b u e))]
      exact kb b u e
    · rw [List.length_map, List.length_mergeSort, hzl, hxl]
      exact hz
theorem cd_sorted (hu : X.A.units + 64 < cLine) (hc : X.calm = true) : CallD X (.builtin "sorted") (g1 sortedD) := by
  intro pins s σ H xs us Q I r h
  obtain ⟨ds, d, hs, hg, q⟩ := h
  match ds, hg with
  | [d], hg =>
    obtain ⟨v, rfl, h⟩ := hs.one
    have hg : sortedD d = some _ := hg
    unfold sortedD at hg
    split at hg
    · split at hg
      · rename_i hf
        rw [Bool.and_eq_true] at hf
        cases hg
        obtain ⟨a, ys, rfl, h1, h2⟩ := h.lst_
        obtain ⟨u, rfl, rx⟩ := vals1 r
        cases rx
        obtain ⟨its, n, rv, z1, l1, e1⟩ := rd_lst I h1
        exact sorted_st hu I rv e1 h2 hf.1 (fits_le hf.2) q
      · cases hg
    · split at hg
      · rename_i hf
        rw [Bool.and_eq_true] at hf
        cases hg
        obtain ⟨a, es, rfl, h1, h2, h3⟩ := h.dic_
        obtain ⟨u, rfl, rx⟩ := vals1 r
        cases rx
        exact sorted_dic hu hc I (rd_dic I h1) h2 hf.1 (fits_le hf.2) q
      · cases hg
    · cases hg

/-! ### all, any -/
def blsOf : List D → Option (List Bool)
  | [] => some []
  | .bool b :: r => (blsOf r).map (b :: ·)
  | _ :: _ => none
def allD : D → Option D
  | .list xs => (blsOf xs).map fun bs => .bool (bs.all id)
  | _ => none
def anyD : D → Option D
  | .list xs => (blsOf xs).map fun bs => .bool (bs.any id)
  | _ => none
theorem bls_vs {K : PySem.W.Frag} {w : World} {H : Hp} : ∀ {vs : List V} {ds : List D} {bs : List Bool}, DaL K w H vs ds → blsOf ds = some bs → vs = bs.map V.bl
  | _, _, _, .nil, h => by cases h; rfl
  | _, _, bs, .cons (d := d) hd a, h => by
    cases d with
    | bool b =>
      rw [blsOf] at h
      cases e : blsOf _ with
      | none => rw [e] at h; cases h
      | some r =>
        rw [e] at h
        cases h
        cases hd
        rw [bls_vs a e]
        rfl
    | _ => cases h
theorem cd_all (hc : X.calm = true) : CallD X (.builtin "all") (g1 allD) := by
  intro pins s σ H xs us Q I r h
  obtain ⟨ds, d, hs, hg, q⟩ := h
  match ds, hg with
  | [d], hg =>
    obtain ⟨v, rfl, h⟩ := hs.one
    have hg : allD d = some _ := hg
    unfold allD at hg
    split at hg
    · cases e : blsOf _ with
      | none => rw [e] at hg; cases hg
      | some bs =>
        rw [e] at hg
        cases hg
        obtain ⟨a, ys, rfl, h1, h2⟩ := h.lst_
        cases bls_vs h2 e
        exact cr_all hc pins s σ H _ us Q I r ⟨a, bs, rfl, .inl h1, q _ _ (Ex.rf H) (.bl _)⟩
    · cases hg
theorem cd_any (hc : X.calm = true) : CallD X (.builtin "any") (g1 anyD) := by
  intro pins s σ H xs us Q I r h
  obtain ⟨ds, d, hs, hg, q⟩ := h
  match ds, hg with
  | [d], hg =>
    obtain ⟨v, rfl, h⟩ := hs.one
    have hg : anyD d = some _ := hg
    unfold anyD at hg
    split at hg
    · cases e : blsOf _ with
      | none => rw [e] at hg; cases hg
      | some bs =>
        rw [e] at hg
        cases hg
        obtain ⟨a, ys, rfl, h1, h2⟩ := h.lst_
        cases bls_vs h2 e
        exact cr_any hc pins s σ H _ us Q I r ⟨a, bs, rfl, .inl h1, q _ _ (Ex.rf H) (.bl _)⟩
    · cases hg
end

/-! ### max, items that stand in the heap -/
section
variable {prog : Program} {w : World} {A : Around}
/-- comparing two items, wherever the objects of h0 but those of wr and S still stand -/
def CmpIn (prog : Program) (w : World) (A : Around) (h0 : Heap) (wr : List Addr) (S : Addr) (P : Nat → Value → Prop) (bt : Nat → Nat → Bool) : Prop :=
  ∀ (i j : Nat) (vi vj : Value) (s : Shared) (Q : Value → Shared → Prop) (E : Value → Shared → Prop), P i vi → P j vj → (∀ b o, b ∉ wr → b ≠ S → h0.get? b = some o → s.heap.get? b = some o) → Q (.bool (bt i j)) s → wpAny (model prog w) A (richCompare .Gt vi vj) Q E s
theorem max_loopH {R : Result → Shared → Prop} {I : Addr} {fp wr : List Addr} {n : Nat} {P : Nat → Value → Prop} {St : Nat → Heap → Prop} {h0 : Heap} (W : Walks prog w A.in1 I fp wr n P St) (bt : Nat → Nat → Bool) (S : Addr) (hcmp : CmpIn prog w A.in1 h0 wr S P bt) (hSf : S ∉ fp) :
    ∀ (k j : Nat) (s : Shared) (vb : Value) (c : Nat), n - (j + 1) = k → j + 1 ≤ n → St (j + 1) s.heap → P (argBest bt j) vb → s.heap.get? S = some { cls := .type "list", dict := none, data := .seq #[vb, vb] c, slots := #[] } →
    (∀ b o, b ∉ wr → b ≠ S → h0.get? b = some o → s.heap.get? b = some o) →
    (∀ v h' tk, P (argBest bt (n - 1)) v → (∀ b o, b ∉ wr → b ≠ S → s.heap.get? b = some o → h'.get? b = some o) → R (.ok (.ret v)) { s with heap := h', toks := tk }) →
    codeAny (model prog w) A (.builtin "max.loop" ⟨[.ref I, .none, .ref S], []⟩) R s := by
  have hSw : S ∉ wr := fun h => hSf (W.sub _ h)
  have hname : (toString "max" ++ toString ".loop" : String) = "max.loop" := by decide
  intro k
  induction k with
  | zero =>
    intro j s vb c hk hj hst hPb hS h0k hR
    have hin : j + 1 = n := by omega
    refine codeAny_builtin F.entry_max_loop ?_
    rw [Around.under_plainId F.plain_max_loop _]
    show wpAny _ A.in1 (seqItems? (.ref S) >>= _) _ _ s
    refine wpAny_bind (wpAny_seqItems hS rfl ?_)
    show wpAny _ A.in1 (tryCatch (pyNext (.ref I)) _ >>= _) _ _ s
    refine wpAny_bind (wpAny_tryCatch (W.done s _ _ (hin ▸ hst) fun h' tk hk' => ?_))
    have hS' := hk' S _ hSw hS
    show wpAny _ A.in1 (updateSeq S (fun _ => #[]) >>= _) _ _ _
    refine wpAny_bind (wpAny_updateSeq hS' rfl (wpAny_bind (wpAny_letGo (wpAny_pure ?_))))
    exact hR vb _ tk (by rw [← hin]; exact hPb) fun b o hbw hbS e => (Heap.get?_update_other _ _ (Ne.symm hbS)).trans (hk' b o hbw e)
  | succ k ih =>
    intro j s vb c hk hj hst hPb hS h0k hR
    have hlt : j + 1 < n := by omega
    refine codeAny_builtin F.entry_max_loop ?_
    rw [Around.under_plainId F.plain_max_loop _]
    show wpAny _ A.in1 (seqItems? (.ref S) >>= _) _ _ s
    refine wpAny_bind (wpAny_seqItems hS rfl ?_)
    show wpAny _ A.in1 (tryCatch (pyNext (.ref I)) _ >>= _) _ _ s
    refine wpAny_bind (wpAny_tryCatch (W.item (j + 1) s _ _ hlt hst fun v h' tk hP hst' hk' => ?_))
    have hS' := hk' S _ hSw hS
    have h0k' : ∀ b o, b ∉ wr → b ≠ S → h0.get? b = some o → h'.get? b = some o := fun b o x y z => hk' b o x (h0k b o x y z)
    show wpAny _ A.in1 (tryCatch (holding [v, v] (richCompare .Gt v vb >>= _)) _ >>= _) _ _ _
    refine wpAny_bind (wpAny_tryCatch (wpAny_holding (wpAny_bind (hcmp (j + 1) (argBest bt j) v vb _ _ _ hP hPb h0k' ?_))))
    refine wpAny_bind (wpAny_holding (wpAny_truthy_bool ?_))
    refine wpAny_bind (wpAny_letGo (wpAny_pure ?_))
    cases hb : bt (j + 1) (argBest bt j) with
    | true =>
      simp only [if_true]
      refine wpAny_bind (wpAny_updateSeq hS' rfl (wpAny_bind (wpAny_letGo ?_)))
      rw [hname]
      refine wpAny_pure ⟨plainId_quiet F.plain_max_loop _, ih (j + 1) _ v _ (by omega) hlt (W.frame _ _ _ hst' fun b hbf o e => ?_) (by simp only [argBest, hb, if_true]; exact hP) (Heap.get?_update_self _ hS' rfl)
        (fun b o x y z => (Heap.get?_update_other _ _ (Ne.symm y)).trans (h0k' b o x y z)) fun v' h'' tk'' hP' hk'' => ?_⟩
      · exact (Heap.get?_update_other _ _ (fun h : S = b => hSf (by rw [h]; exact hbf))).trans e
      · exact hR v' h'' tk'' hP' fun b o hbw hbS e => hk'' b o hbw hbS ((Heap.get?_update_other _ _ (Ne.symm hbS)).trans (hk' b o hbw e))
    | false =>
      simp only [Bool.false_eq_true, if_false]
      refine wpAny_bind (wpAny_letGo ?_)
      rw [hname]
      refine wpAny_pure ⟨plainId_quiet F.plain_max_loop _, ih (j + 1) _ vb c (by omega) hlt hst' (by simp only [argBest, hb, Bool.false_eq_true, if_false]; exact hPb) hS' h0k' fun v' h'' tk'' hP' hk'' => ?_⟩
      exact hR v' h'' tk'' hP' fun b o hbw hbS e => hk'' b o hbw hbS (hk' b o hbw e)
theorem max_firstH {R : Result → Shared → Prop} {I : Addr} {fp wr : List Addr} {n : Nat} {P : Nat → Value → Prop} {St : Nat → Heap → Prop} (W : Walks prog w A.in1 I fp wr n P St) (bt : Nat → Nat → Bool) (S : Addr) (hSf : S ∉ fp) (hn : 0 < n) {s : Shared} {c : Nat}
    (hcmp : CmpIn prog w A.in1 s.heap wr S P bt) (hst : St 0 s.heap) (hS : s.heap.get? S = some { cls := .type "list", dict := none, data := .seq #[] c, slots := #[] })
    (hR : ∀ v h' tk, P (argBest bt (n - 1)) v → (∀ b o, b ∉ wr → b ≠ S → s.heap.get? b = some o → h'.get? b = some o) → R (.ok (.ret v)) { s with heap := h', toks := tk }) :
    codeAny (model prog w) A (.builtin "max.loop" ⟨[.ref I, .none, .ref S], []⟩) R s := by
  have hSw : S ∉ wr := fun h => hSf (W.sub _ h)
  have hname : (toString "max" ++ toString ".loop" : String) = "max.loop" := by decide
  refine codeAny_builtin F.entry_max_loop ?_
  rw [Around.under_plainId F.plain_max_loop _]
  show wpAny _ A.in1 (seqItems? (.ref S) >>= _) _ _ s
  refine wpAny_bind (wpAny_seqItems hS rfl ?_)
  show wpAny _ A.in1 (tryCatch (pyNext (.ref I)) _ >>= _) _ _ s
  refine wpAny_bind (wpAny_tryCatch (W.item 0 s _ _ hn hst fun v h' tk hP hst' hk' => ?_))
  have hS' := hk' S _ hSw hS
  show wpAny _ A.in1 (updateSeq S (fun _ => #[v, v]) >>= _) _ _ _
  refine wpAny_bind (wpAny_updateSeq hS' rfl ?_)
  rw [hname]
  refine wpAny_pure ⟨plainId_quiet F.plain_max_loop _, max_loopH W bt S hcmp hSf _ 0 _ v _ rfl hn (W.frame _ _ _ hst' fun b hbf o e => ?_) hP (Heap.get?_update_self _ hS' rfl)
    (fun b o x y z => (Heap.get?_update_other _ _ (Ne.symm y)).trans (hk' b o x z)) fun v' h'' tk'' hP' hk'' => ?_⟩
  · exact (Heap.get?_update_other _ _ (fun h : S = b => hSf (by rw [h]; exact hbf))).trans e
  · exact hR v' h'' tk'' hP' fun b o hbw hbS e => hk'' b o hbw hbS ((Heap.get?_update_other _ _ (Ne.symm hbS)).trans (hk' b o hbw e))
/-- max(l), l a list whose items compare by what stands in the heap -/
theorem call_maxH {E : Value → Shared → Prop} {s : Shared} {l : Addr} {items : Array Value} {Q : Value → Shared → Prop} (hh : A.handled = none) (hl : s.heap.IsList l items) (hne : 0 < items.size) (bt : Nat → Nat → Bool)
    (hcmp : ∀ (i j : Nat) (vi vj : Value) (s' : Shared) (Q : Value → Shared → Prop) (E : Value → Shared → Prop), items[i]? = some vi → items[j]? = some vj → (∀ b o, s.heap.get? b = some o → s'.heap.get? b = some o) → Q (.bool (bt i j)) s' → wpAny (model prog w) A.in1 (richCompare .Gt vi vj) Q E s')
    (h : ∀ v h' tk, items[argBest bt (items.size - 1)]? = some v → (∀ b o, s.heap.get? b = some o → h'.get? b = some o) → Q v { s with heap := h', toks := tk }) :
    wpAny (model prog w) A (call (.builtin "max") [.ref l]) Q E s := by
  have hname : (toString "max" ++ toString ".loop" : String) = "max.loop" := by decide
  refine call_function_tree F.kind_max F.plain_max F.entry_max (F.args_max1 _) ?_
  show wpAny _ A.in1 (Builtin.Builtins.bindParams "max" ["key", "default"] 0 ⟨[], []⟩ >>= _) _ _ s
  refine wpAny_bind (wpAny_of_eq (show Builtin.Builtins.bindParams "max" ["key", "default"] 0 ⟨[], []⟩ = pure [none, none] from rfl) ?_)
  refine wpAny_bind (wpAny_pure ?_)
  refine wpAny_bind (iter_any hl fun s2 e2 st hne2 => ?_)
  subst e2
  have W := Walks.list (prog := prog) (w := w) (A := A.in1) hh s.heap.objs.size l hne2 items
  refine wpAny_bind (wpAny_newObj_type ?_)
  rw [hname]
  have hlt : l < s.heap.objs.size := by obtain ⟨_, e, _⟩ := hl; exact Heap.lt_size e
  have old : ∀ b o, s.heap.get? b = some o → b ∉ [s.heap.objs.size] ∧ b ≠ s.heap.objs.size + 1 := fun b o e => by
    have lt := Heap.lt_size e
    exact ⟨fun h => by simp at h; exact absurd h (Nat.ne_of_lt lt), Nat.ne_of_lt (Nat.lt_succ_of_lt lt)⟩
  have sz : (s.heap.push { cls := .type "list_iterator", data := .fields #[.ref l, .int 0 0] }).objs.size = s.heap.objs.size + 1 := PyProof.Rows.size_push' _ _
  refine wpAny_pure ⟨plainId_quiet F.plain_max_loop _, max_firstH W bt _ ?_ hne ?_ (W.frame _ _ _ st fun b _ o e => Heap.get?_push_of_some _ e) (Heap.get?_push_size _ rfl) fun v h' tk hP hk => ?_⟩
  · intro hm
    simp only [List.mem_cons, List.not_mem_nil, or_false] at hm
    rw [sz] at hm
    rcases hm with hm | hm
    · exact absurd hm (Nat.succ_ne_self _)
    · exact absurd hm (Ne.symm (Nat.ne_of_lt (Nat.lt_succ_of_lt hlt)))
  · intro i j vi vj s' Q E hi hj hk hQ
    refine hcmp i j vi vj s' Q E hi hj (fun b o e => ?_) hQ
    have := old b o e
    exact hk b o this.1 (by rw [sz]; exact this.2) (Heap.get?_push_of_some _ (Heap.get?_push_of_some _ e))
  · refine h v h' tk hP fun b o e => ?_
    have := old b o e
    exact hk b o this.1 (by rw [sz]; exact this.2) (Heap.get?_push_of_some _ (Heap.get?_push_of_some _ e))
end
end Hm
/-! Hm12: max -/
namespace Hm
open PySem L2 Ob PySem.SeqAt

section
variable {A : Around} {s : Shared}
theorem reads_pair {h : Heap} {v : Value} {d e : D} {as : List Addr} (r : Reads h v (.tuple [d, e]) as) : ∃ p u z cs ds, v = .ref p ∧ h.IsTuple p #[u, z] ∧ Reads h u d cs ∧ Reads h z e ds := by
  cases r with
  | @tuple a o vs n _ as h1 h2 h3 h4 =>
    obtain ⟨l⟩ := vs
    simp only at h4
    cases h4 with
    | cons r1 h4 => cases h4 with
      | cons r2 h4 =>
        cases h4
        exact ⟨a, _, _, _, _, rfl, ⟨o, h1, h2, n, h3⟩, r1, r2⟩
theorem rc_gt_st {v u : Value} {n m : Int} {a b : Str} {as bs : List Addr} (r : Reads s.heap v (.tuple [.int n, .str a]) as) (r' : Reads s.heap u (.tuple [.int m, .str b]) bs) (hu : A.units < cLine) : RcOp .Gt A s v u (ltSt m b n a) := by
  obtain ⟨p, x, y, _, _, rfl, hp, q1, q2⟩ := reads_pair r
  obtain ⟨p', x', y', _, _, rfl, hp', q1', q2'⟩ := reads_pair r'
  cases q1 with
  | int _ t1 => cases q2 with
    | str _ t2 => cases q1' with
      | int _ u1 => cases q2' with
        | str _ u2 =>
          have key := RcOp.tuples_gt (A := A) (e := fun j => if j = 0 then (n == m) else (a == b)) (r := fun j => if j = 0 then decide (m < n) else decide (b.cps.toList < a.cps.toList)) hp hp' hu
            (fun j h1 h2 => match j, h1 with
              | 0, _ => EqAt.int_int n t1 m u1
              | 1, _ => EqAt.str_str a t2 b u2)
            (fun j h1 h2 _ => match j, h1 with
              | 0, _ => RcOp.gt_int n m t1 u1
              | 1, _ => fun _ _ _ _ h => PySem.P.gt_str h)
          rw [← lex_lt m n b a (e := fun j => if j = 0 then (n == m) else (a == b)) (r := fun j => if j = 0 then decide (m < n) else decide (b.cps.toList < a.cps.toList)) (BEq.comm (a := n) (b := m)) (BEq.comm (a := a) (b := b)) rfl rfl]
          exact key
end

/-- x > y, of two numbers, of two pairs of a stamp and a text -/
def gtM : D → D → Bool
  | .int i, .int j => decide (j < i)
  | .tuple [.tuple [.int n, .str a], .str x], .tuple [.tuple [.int m, .str b], .str y] => if (n == m && a == b) = true then decide (y.cps.toList < x.cps.toList) else ltSt m b n a
  | _, _ => false
def isPr : D → Bool
  | .tuple [.tuple [.int _, .str _], .str _] => true
  | _ => false
def isIn : D → Bool
  | .int _ => true
  | _ => false
theorem isPr_ex {d : D} (h : isPr d = true) : ∃ n a x, d = .tuple [.tuple [.int n, .str a], .str x] := by
  unfold isPr at h
  split at h
  · exact ⟨_, _, _, rfl⟩
  · cases h
theorem isIn_ex {d : D} (h : isIn d = true) : ∃ n, d = .int n := by
  unfold isIn at h
  split at h
  · exact ⟨_, rfl⟩
  · cases h
def bestOf (x : D) (xs : List D) : D := xs.foldl (fun b y => if gtM y b then y else b) x
def maxD : D → Option D
  | .list (x :: xs) => if (x :: xs).all isPr || (x :: xs).all isIn then some (bestOf x xs) else none
  | _ => none
theorem best_at (x : D) (xs : List D) (bt : Nat → Nat → Bool) (hbt : ∀ i j, bt i j = gtM ((x :: xs).getD i .none) ((x :: xs).getD j .none)) : ∀ k, k ≤ xs.length → (x :: xs)[argBest bt k]? = some (bestOf x (xs.take k))
  | 0, _ => by simp [argBest, bestOf]
  | k + 1, h => by
    have ih := best_at x xs bt hbt k (by omega)
    have hk : xs[k]? = some (xs[k]'(by omega)) := List.getElem?_eq_getElem _
    have e1 : (x :: xs).getD (k + 1) .none = xs[k]'(by omega) := by rw [List.getD_eq_getElem?_getD, List.getElem?_cons_succ, hk]; rfl
    have e2 : (x :: xs).getD (argBest bt k) .none = bestOf x (xs.take k) := by rw [List.getD_eq_getElem?_getD, ih]; rfl
    have e3 : bestOf x (xs.take (k + 1)) = if gtM (xs[k]'(by omega)) (bestOf x (xs.take k)) then xs[k]'(by omega) else bestOf x (xs.take k) := by
      unfold bestOf
      rw [List.take_succ, hk, Option.toList_some, List.foldl_append]
      rfl
    rw [argBest, hbt, e1, e2, e3]
    split
    · rw [List.getElem?_cons_succ, hk]
    · exact ih
section
variable {X : Cx}
theorem gt_at {A : Around} {s : Shared} {d e : D} {v u : Value} {as bs : List Addr} (h : (isPr d = true ∧ isPr e = true) ∨ (isIn d = true ∧ isIn e = true)) (r : Reads s.heap v d as) (r' : Reads s.heap u e bs) (hu : A.units + 40 < cLine) :
    RcOp .Gt A s v u (gtM d e) := by
  rcases h with ⟨h1, h2⟩ | ⟨h1, h2⟩
  · obtain ⟨n, a, x, rfl⟩ := isPr_ex h1
    obtain ⟨m, b, y, rfl⟩ := isPr_ex h2
    obtain ⟨p, u1, u2, _, _, rfl, hp, q1, q2⟩ := reads_pair r
    obtain ⟨p', z1, z2, _, _, rfl, hp', q1', q2'⟩ := reads_pair r'
    have he := eqAt_ok 8 (.tuple [.int n, .str a]) (.tuple [.int m, .str b]) A.in1 s _ _ _ _ q1 q1' (by simp) (by simp) (by show A.units + 1 + 8 < cLine; omega)
    have hg := rc_gt_st (A := A.in1) q1 q1' (by show A.units + 1 < cLine; omega)
    cases q2 with
    | str _ t2 => cases q2' with
      | str _ t2' =>
        have key := RcOp.tuples_gt (A := A) (e := fun j => if j = 0 then PyData.eqv (.tuple [.int n, .str a]) (.tuple [.int m, .str b]) else (x == y)) (r := fun j => if j = 0 then ltSt m b n a else decide (y.cps.toList < x.cps.toList)) hp hp' (by omega)
          (fun j h1 h2 => match j, h1 with
            | 0, _ => he
            | 1, _ => EqAt.str_str x t2 y t2')
          (fun j h1 h2 _ => match j, h1 with
            | 0, _ => hg
            | 1, _ => fun _ _ _ _ h => PySem.P.gt_str h)
        have e : lexAt (fun j => if j = 0 then PyData.eqv (.tuple [.int n, .str a]) (.tuple [.int m, .str b]) else (x == y)) (fun j => if j = 0 then ltSt m b n a else decide (y.cps.toList < x.cps.toList)) false 0 2 = gtM (.tuple [.tuple [.int n, .str a], .str x]) (.tuple [.tuple [.int m, .str b], .str y]) := by
          rw [lexAt_succ, lexAt_succ, lexAt_zero]
          have e0 : PyData.eqv (.tuple [.int n, .str a]) (.tuple [.int m, .str b]) = (n == m && a == b) := by simp [PyData.eqv, PyData.eqvAll]
          show (if PyData.eqv (.tuple [.int n, .str a]) (.tuple [.int m, .str b]) = true then (if (x == y) = true then false else decide (y.cps.toList < x.cps.toList)) else ltSt m b n a) = _
          rw [e0]
          show _ = if (n == m && a == b) = true then decide (y.cps.toList < x.cps.toList) else ltSt m b n a
          by_cases hxy : x = y
          · subst hxy
            have hz : decide (x.cps.toList < x.cps.toList) = false := decide_eq_false (List.lt_irrefl _)
            rw [hz]
            simp only [beq_self_eq_true, if_true]
          · simp [hxy]
        rw [← e]
        exact key
  · obtain ⟨n, rfl⟩ := isIn_ex h1
    obtain ⟨m, rfl⟩ := isIn_ex h2
    cases r with
    | int _ t => cases r' with
      | int _ t' => exact RcOp.gt_int n m t t'
theorem cd_max (hu : X.A.units + 64 < cLine) (hc : X.calm = true) : CallR X (.builtin "max") (fun vs H Q => ∃ ds r, SnL X.K X.w H vs ds ∧ g1 maxD ds = some r ∧ ∀ v, Da X.K X.w H v r → Q v H) := by
  intro pins s σ H xs us Q I r h
  obtain ⟨ds, d, hs, hg, q⟩ := h
  match ds, hg with
  | [d], hg =>
    obtain ⟨v, rfl, h⟩ := hs.one
    have hg : maxD d = some _ := hg
    unfold maxD at hg
    split at hg
    · rename_i x xs _
      split at hg
      · rename_i hf
        cases hg
        obtain ⟨a, ys, rfl, h1, h2⟩ := h.lst_
        obtain ⟨u, rfl, rx⟩ := vals1 r
        cases rx
        obtain ⟨its, n, rv, z1, l1, e1⟩ := rd_lst I h1
        have hlen := h2.length
        have hkind : ∀ i j, i < (x :: xs).length → j < (x :: xs).length → (isPr ((x :: xs).getD i .none) = true ∧ isPr ((x :: xs).getD j .none) = true) ∨ (isIn ((x :: xs).getD i .none) = true ∧ isIn ((x :: xs).getD j .none) = true) := by
          intro i j hi hj
          rw [Bool.or_eq_true, List.all_eq_true, List.all_eq_true] at hf
          have m1 : (x :: xs).getD i .none ∈ x :: xs := by rw [List.getD_eq_getElem?_getD, List.getElem?_eq_getElem hi]; exact List.getElem_mem _
          have m2 : (x :: xs).getD j .none ∈ x :: xs := by rw [List.getD_eq_getElem?_getD, List.getElem?_eq_getElem hj]; exact List.getElem_mem _
          exact hf.imp (fun z => ⟨z _ m1, z _ m2⟩) fun z => ⟨z _ m1, z _ m2⟩
        have rd : ∀ (i : Nat) (vi : Value), its.toArray[i]? = some vi → ∃ as, i < (x :: xs).length ∧ Reads s.heap vi ((x :: xs).getD i .none) as := fun i vi hi => by
          have hi' : its[i]? = some vi := by simpa using hi
          have hlt := (List.getElem?_eq_some_iff.mp hi').1
          have hy : ys[i]? = some (ys[i]'(by omega)) := List.getElem?_eq_getElem _
          obtain ⟨u', hu1, hu2⟩ := rv.get hy
          rw [hi'] at hu1
          cases hu1
          obtain ⟨di, hd1, hd2⟩ := h2.getV hy
          obtain ⟨as, hr⟩ := hd2.reads I hu2
          exact ⟨as, (List.getElem?_eq_some_iff.mp hd1).1, by rw [List.getD_eq_getElem?_getD, hd1]; exact hr⟩
        refine call_maxH (I.ok.hd hc) ⟨_, e1, rfl, _, rfl⟩ (by simp only [List.size_toArray]; simp at hlen; omega) (fun i j => gtM ((x :: xs).getD i .none) ((x :: xs).getD j .none)) (fun i j vi vj s' Q' E' hi hj hk hQ => ?_) fun vv h' tk hv hk => ?_
        · obtain ⟨as, hi1, r1⟩ := rd i vi hi
          obtain ⟨bs, hj1, r2⟩ := rd j vj hj
          exact gt_at (A := X.A.in1) (s := s') (hkind i j hi1 hj1) (PyProof.Rows.Reads.keeps (fun b o => hk b o) r1) (PyProof.Rows.Reads.keeps (fun b o => hk b o) r2) (by show X.A.units + 1 + 40 < cLine; omega) _ _ _ _ hQ
        · have hsz : its.toArray.size - 1 = xs.length := by simp only [List.size_toArray]; simp at hlen; omega
          rw [hsz] at hv
          have hb := best_at x xs (fun i j => gtM ((x :: xs).getD i .none) ((x :: xs).getD j .none)) (fun _ _ => rfl) xs.length (Nat.le_refl _)
          rw [List.take_length] at hb
          have hv' : its[argBest (fun i j => gtM ((x :: xs).getD i .none) ((x :: xs).getD j .none)) xs.length]? = some vv := by simpa using hv
          obtain ⟨z, hz1, hz2⟩ := h2.get hb
          obtain ⟨u', hu1, hu2⟩ := rv.get hz1
          rw [hv'] at hu1
          cases hu1
          exact ⟨z, H, I.kept hk, hu2, q z hz2⟩
      · cases hg
    · cases hg
end
section
variable {X : Cx} {R : Rl X.K X.w} {Ew : Ews} {e a b : Expr} {fa : Fa} {ms : List Md} {pos p1 : Pos}
theorem ed_max (hu : X.A.units + 64 < cLine) (hc : X.calm = true) (hg : Gl X "max") (hm : X.mg "max" = none) (ha : PA X [e] (tA R Ew ms fa))
    (hs : starEach [e] X.env = (false, eval e X.env) :: starEach [] X.env := by rfl) : PE X (.Call (.Name "max" p1) [e] [] pos) (tE R Ew .da (fCall (g1 maxD) fa)) := by
  refine PE.imp (pe_callB (cd_max hu hc) hg hm (by decide +kernel) ha (by decide) (by decide) hs rfl) fun σ H Q ⟨δ, p, q⟩ => ?_
  refine tA_then p (Ex.rf H) q fun ds vs H1 p1 e1 _ r1 q1 => ?_
  obtain ⟨r, hr, q1⟩ := q1.of
  exact ⟨ds, r, r1.snL, hr, fun v n => q1 v H1 e1 n⟩
end
end Hm
/-! Hm13: what is walked; comprehensions -/
namespace Hm
open PySem L2 Ob PySem.SeqAt

/-- an iterator that gives the data ds, whatever may be written meanwhile -/
structure Stp (K : PySem.W.Frag) (w : World) (J : It) (H1 : Hp) (ds : List D) : Prop where
  stop : ∀ i H', Kp H1 H' → ds.length = i → J.stop i H'
  go : ∀ (i : Nat) (H' : Hp) (d : D), Kp H1 H' → ds[i]? = some d → J.go i H'
  yld : ∀ (i : Nat) (H' : Hp) (d : D) (x : V) (H'' : Hp), Kp H1 H' → ds[i]? = some d → J.yld i H' x H'' → Ex H' H'' ∧ Da K w H'' x d
def tI {K : PySem.W.Frag} {w : World} (R : Rl K w) (Ew : Ews) (f : Fa) : TI := fun σ H Q => ∃ δ, R.P σ H δ ∧ Rk (f δ) (EW Ew δ H) fun ds => ∀ J H1, Ex H H1 → Stp K w J H1 ds → Q J H1
def signs (x : Str) : List D := x.cps.toList.map fun c => .str ⟨#[c]⟩
def itemsOf : D → Option (List D)
  | .list xs => some xs
  | .tuple xs => some xs
  | .str x => some (signs x)
  | _ => none
def fIt (f : Fe) : Fa := fun δ => f δ >>= fun d => Rs.of (itemsOf d)
theorem DaL.lenV {K : PySem.W.Frag} {w : World} {H : Hp} {vs : List V} {ds : List D} (h : DaL K w H vs ds) {i : Nat} (hi : ds.length ≤ i) : vs.length ≤ i := by rw [h.length]; exact hi

section
variable {K : PySem.W.Frag} {w : World} {H1 : Hp} {a : Addr} {xs : List V} {ds : List D}
theorem stp_list {o : Obj} (h : H1 a = some (.frz o (.lst xs))) (hd : DaL K w H1 xs ds) : Stp K w (Itl K a) H1 ds where
  stop := fun i H' k hi => ⟨xs, .inl (.inr ⟨o, k.frz _ _ _ h⟩), hd.lenV (Nat.le_of_eq hi)⟩
  go := fun i H' d k hi => let ⟨v, hv, _⟩ := hd.get hi; ⟨xs, v, .inl (.inr ⟨o, k.frz _ _ _ h⟩), hv⟩
  yld := fun i H' d x H'' k hi y => by
    obtain ⟨rfl, y⟩ := y
    obtain ⟨v, hv, hda⟩ := hd.get hi
    have := y xs (.inl (.inr ⟨o, k.frz _ _ _ h⟩))
    rw [hv] at this
    cases this
    exact ⟨Ex.rf _, hda.kp k⟩
theorem stp_tup (h : SqT K H1 a xs) (hd : DaL K w H1 xs ds) : Stp K w (Itt K a) H1 ds where
  stop := fun i H' k hi => ⟨xs, k.sqT h, hd.lenV (Nat.le_of_eq hi)⟩
  go := fun i H' d k hi => let ⟨v, hv, _⟩ := hd.get hi; ⟨xs, v, k.sqT h, hv⟩
  yld := fun i H' d x H'' k hi y => by
    obtain ⟨rfl, y⟩ := y
    obtain ⟨v, hv, hda⟩ := hd.get hi
    have := y xs (k.sqT h)
    rw [hv] at this
    cases this
    exact ⟨Ex.rf _, hda.kp k⟩
theorem stp_str (x : Str) : Stp K w (Its x) H1 (signs x) where
  stop := fun i H' k hi => by have hi := Nat.le_of_eq hi; show x.cps.size ≤ i; simpa [signs] using hi
  go := fun i H' d k hi => by
    have := (List.getElem?_eq_some_iff.mp hi).1
    show i < x.cps.size
    simpa [signs] using this
  yld := fun i H' d v H'' k hi y => by
    obtain ⟨rfl, c, hc, rfl⟩ := y
    refine ⟨Ex.rf _, ?_⟩
    have hc' : x.cps.toList[i]? = some c := by simpa using hc
    unfold signs at hi
    rw [List.getElem?_map, hc'] at hi
    cases hi
    exact .str _
def rangeD (lo : Int) (n : Nat) : List D := (List.range n).map fun i => .int (lo + (i : Nat))
theorem stp_range (lo : Int) (n : Nat) : Stp K w (Itr lo n) H1 (rangeD lo n) where
  stop := fun i H' k hi => by have hi := Nat.le_of_eq hi; show n ≤ i; simpa [rangeD] using hi
  go := fun i H' d k hi => by
    have := (List.getElem?_eq_some_iff.mp hi).1
    show i < n
    simpa [rangeD] using this
  yld := fun i H' d v H'' k hi y => by
    obtain ⟨rfl, rfl⟩ := y
    refine ⟨Ex.rf _, ?_⟩
    have hlt : i < n := by
      have := (List.getElem?_eq_some_iff.mp hi).1
      simpa [rangeD] using this
    unfold rangeD at hi
    rw [List.getElem?_map, List.getElem?_range hlt] at hi
    cases hi
    exact .int _
end

section
variable {X : Cx} {R : Rl X.K X.w} {Ew : Ews} {e tg iter : Expr} {fa : Fe} {pos p1 : Pos}
/-- a list, a tuple, a text -/
theorem ei_seq (ha : PE X e (tE R Ew .da fa)) : PI X tg e (tI R Ew (fIt fa)) := by
  refine ⟨fun pins s σ H Rr I ⟨δ, p, q⟩ => ?_⟩
  refine thn (ha.run pins s σ H (fun v H1 => ∃ d ds, itemsOf d = some ds ∧ Da X.K X.w H1 v d ∧ Ex H H1 ∧ ∀ J H1, Ex H H1 → Stp X.K X.w J H1 ds → Rr J H1) I (tE_then p (Ex.rf H) q fun d v H1 p1 e1 _ r1 q1 => ?_)) fun u s1 ⟨v, H1, I1, r1, d, ds, hd, hda, e1, q1⟩ => ?_
  · obtain ⟨ds, hds, q1⟩ := q1.of
    exact ⟨d, ds, hds, r1, e1, q1⟩
  · cases hda with
    | lst h a =>
      cases hd
      cases r1
      obtain ⟨its, rv, pl, hz⟩ := I1.list (.inl (.inr ⟨_, h⟩))
      refine wpAny_pyIter_list pl.isList ?_
      refine ⟨s1.heap.objs.size, [s1.heap.objs.size], _, _, H1, rfl, I1.kept (t' := s1.toks) fun b o e => Heap.get?_push_of_some _ e, turn_list _ _, ⟨_, Heap.get?_push_size _ rfl, rfl, rfl⟩, fun b hb => ?_, q1 _ _ e1 (stp_list h a)⟩
      have e : b = s1.heap.objs.size := by simpa using hb
      subst e
      exact I1.fpOk (Nat.le_refl _) (I1.hok.fresh (Nat.le_refl _))
    | tup h a =>
      cases hd
      cases r1
      obtain ⟨its, rv, pl, hz⟩ := I1.tuple h
      refine wpAny_pyIter_tuple (show s1.heap.IsTuple _ its.toArray from pl) ?_
      refine ⟨s1.heap.objs.size, [s1.heap.objs.size], _, _, H1, rfl, I1.kept (t' := s1.toks) fun b o e => Heap.get?_push_of_some _ e, turn_tuple _ _, ⟨_, Heap.get?_push_size _ rfl, rfl, rfl⟩, fun b hb => ?_, q1 _ _ e1 (stp_tup h a)⟩
      have e : b = s1.heap.objs.size := by simpa using hb
      subst e
      exact I1.fpOk (Nat.le_refl _) (I1.hok.fresh (Nat.le_refl _))
    | str x =>
      cases hd
      obtain ⟨t, rfl⟩ := r1
      have q2 := q1 (Its x) H1 e1 (stp_str x)
      cases ha : x.cps.all (· < 128)
      · exact wpAny_pyIter_wide ha (pi_one (tk := s1.toks) I1 _ (turn_str _ x t "str_iterator" (.inr rfl)) ⟨_, Heap.get?_push_size _ rfl, rfl, rfl⟩ q2)
      · exact wpAny_pyIter_ascii ha (pi_one (tk := s1.toks) I1 _ (turn_str _ x t "str_ascii_iterator" (.inl rfl)) ⟨_, Heap.get?_push_size _ rfl, rfl, rfl⟩ q2)
    | _ => cases hd
theorem PI.imp {t t' : TI} (h : PI X tg e t) (i : ∀ σ H Q, t' σ H Q → t σ H Q) : PI X tg e t' := ⟨fun pins s σ H Q I q => h.run pins s σ H Q I (i σ H Q q)⟩
def small62 (i : Int) : Bool := decide (i.natAbs < 2 ^ 62)
theorem small62_of {i : Int} (h : small62 i = true) : -(2 ^ 62) ≤ i ∧ i < 2 ^ 62 := by
  have := of_decide_eq_true h
  omega
/-- range(n), range(a, b) -/
def rng1 (fa : Fe) : Fa := fun δ => fa δ >>= fun d => Rs.of (intOf d) >>= fun n => Rs.need (small62 n) >>= fun _ => .ok (rangeD 0 n.toNat)
def rng2 (fa fb : Fe) : Fa := fun δ => fa δ >>= fun d => fb δ >>= fun d' => Rs.of (intOf d) >>= fun i => Rs.of (intOf d') >>= fun j => Rs.need (small62 i) >>= fun _ => Rs.need (small62 j) >>= fun _ => .ok (rangeD i (j - i).toNat)
theorem intOf_some {d : D} {i : Int} (h : intOf d = some i) : d = .int i := by
  cases d <;> first | (cases h; rfl) | cases h
theorem ei_range1 (ha : PE X e (tE R Ew .sn fa)) (hg : Gl X "range") (hm : X.mg "range" = none) (hs : starEach [e] X.env = [(false, eval e X.env)] := by rfl) : PI X tg (.Call (.Name "range" p1) [e] [] pos) (tI R Ew (rng1 fa)) := by
  refine PI.imp (pi_range1 hg hm (pa_cons ha pa_nil hs) hs) fun σ H Q ⟨δ, p, q⟩ => ?_
  refine tE_then p (Ex.rf H) q fun d v H1 p1 e1 _ r1 q1 => ?_
  obtain ⟨n, hn, q2⟩ := (Rk.bind q1).of
  obtain ⟨hz, q3⟩ := (Rk.bind q2).need
  cases intOf_some hn
  cases Sn.int_ r1
  have := small62_of hz
  exact ⟨_, rfl, this.1, this.2, q3 _ H1 e1 (stp_range 0 _)⟩
theorem ei_range2 {b : Expr} {fb : Fe} (ha : PE X e (tE R Ew .sn fa)) (hb : PE X b (tE R Ew .sn fb)) (hg : Gl X "range") (hm : X.mg "range" = none) (hs : starEach [e, b] X.env = [(false, eval e X.env), (false, eval b X.env)] := by rfl) (hs2 : starEach [b] X.env = [(false, eval b X.env)] := by rfl) :
    PI X tg (.Call (.Name "range" p1) [e, b] [] pos) (tI R Ew (rng2 fa fb)) := by
  refine PI.imp (pi_range2 hg hm (pa_cons ha (pa_cons hb pa_nil hs2) (by rw [hs, hs2])) hs hs2) fun σ H Q ⟨δ, p, q⟩ => ?_
  refine tE_then p (Ex.rf H) q fun d v H1 p1 e1 _ r1 q1 => ?_
  refine tE_then p1 e1 q1 fun d2 v2 H2 p2 e2 e02 r2 q2 => ?_
  obtain ⟨n, hn, q3⟩ := (Rk.bind q2).of
  obtain ⟨m, hm, q4⟩ := (Rk.bind q3).of
  obtain ⟨hz, q5⟩ := (Rk.bind q4).need
  obtain ⟨hz2, q6⟩ := (Rk.bind q5).need
  cases intOf_some hn
  cases intOf_some hm
  cases Sn.int_ r1
  cases Sn.int_ r2
  have a1 := small62_of hz
  have a2 := small62_of hz2
  exact ⟨_, _, rfl, ⟨a1.1, a1.2, a2.1, a2.2⟩, q6 _ H2 e02 (stp_range _ _)⟩
end

/-! ### targets -/
abbrev Ftg := D → Dl → Option Dl
def ftN (j : Nat) : Ftg := fun d δ => some (δ.set j (.dat d))
def setAll : Dl → List Nat → List D → Dl
  | δ, j :: js, d :: ds => setAll (δ.set j (.dat d)) js ds
  | δ, _, _ => δ
def ftT (js : List Nat) : Ftg := fun d δ => match d with
  | .tuple ds => if ds.length = js.length then some (setAll δ js ds) else none
  | _ => none
/-- what a target does: it changes the slots vs alone -/
def GdP {K : PySem.W.Frag} {w : World} (R : Rl K w) (n : Nat) (g : TG) (ft : Ftg) (vs : List Nat) : Prop :=
  ∀ (v : V) (d : D) (σ : St) (H : Hp) (δ : Dl) (Q : St → Hp → Prop), σ.length = n → R.P σ H δ → Da K w H v d → ∀ δ', ft d δ = some δ' → (∀ σ' : St, σ'.length = n → R.P σ' H δ' → (∀ j : Nat, j ∉ vs → σ'[j]? = σ[j]?) → Q σ' H) → g v σ H Q
def gNames : List Nat → TGs
  | [] => gNil
  | j :: js => gCons (gName j) (gNames js)
theorem gd_name {K : PySem.W.Frag} {w : World} {R : Rl K w} {n j : Nat} {vs : List Nat} (hj : j < n) (hv : j ∈ vs) : GdP R n (gName j) (ftN j) vs := by
  intro v d σ H δ Q hl p h δ' hf q
  cases hf
  exact q (σ.set j (some v)) (by simpa using hl) (R.set p (by rw [hl]; exact hj) h) fun i hi => List.getElem?_set_ne (fun e => hi (by rw [← e]; exact hv))
theorem gnames_ok {K : PySem.W.Frag} {w : World} {R : Rl K w} {n : Nat} {vs : List Nat} : ∀ (js : List Nat) (xs : List V) (ds : List D) (σ : St) (H : Hp) (δ : Dl) (Q : St → Hp → Prop), (∀ j ∈ js, j < n ∧ j ∈ vs) → σ.length = n → R.P σ H δ → DaL K w H xs ds → ds.length = js.length →
    (∀ σ' : St, σ'.length = n → R.P σ' H (setAll δ js ds) → (∀ j : Nat, j ∉ vs → σ'[j]? = σ[j]?) → Q σ' H) → gNames js xs σ H Q
  | [], _, _, σ, H, δ, Q, _, hl, p, .nil, _, q => ⟨rfl, q σ hl p fun _ _ => rfl⟩
  | [], _, _, σ, H, δ, Q, _, hl, p, .cons _ _, e, q => by simp at e
  | j :: js, _, _, σ, H, δ, Q, _, hl, p, .nil, e, q => by simp at e
  | j :: js, _, _, σ, H, δ, Q, hj, hl, p, .cons h a, e, q => by
    obtain ⟨h1, h2⟩ := hj j List.mem_cons_self
    refine ⟨_, _, rfl, ?_⟩
    refine gnames_ok js _ _ (σ.set j (some _)) H (δ.set j (.dat _)) Q (fun i hi => hj i (List.mem_cons_of_mem _ hi)) (by simpa using hl) (R.set p (by rw [hl]; exact h1) h) a (by simpa using e) fun σ' l' p' k => q σ' l' p' fun i hi => ?_
    rw [k i hi]
    exact List.getElem?_set_ne (fun e => hi (by rw [← e]; exact h2))
theorem gd_tup {K : PySem.W.Frag} {w : World} {R : Rl K w} {n : Nat} {js vs : List Nat} (hj : ∀ j ∈ js, j < n ∧ j ∈ vs) : GdP R n (gTup K js.length (gNames js)) (ftT js) vs := by
  intro v d σ H δ Q hl p h δ' hf q
  unfold ftT at hf
  split at hf
  · split at hf
    · rename_i hlen
      cases hf
      obtain ⟨a, xs, rfl, h1, h2⟩ := (Sn.da h).tup_
      exact ⟨a, xs, rfl, h1, by rw [h2.length]; exact hlen, gnames_ok js xs _ σ H δ Q hj hl p h2 hlen q⟩
    · cases hf
  · cases hf

/-! ### comprehensions -/
def noX {t : Type} : Rs t → Rs t
  | .ok x => .ok x
  | _ => .bad
theorem noX_ok {t : Type} {r : Rs t} {x : t} (h : noX r = .ok x) : r = .ok x := by
  cases r <;> first | (cases h; rfl) | cases h
def Ew0 : Ews := fun _ _ _ => False
theorem Rk.noX {t : Type} {r : Rs t} {E : Str → Prop} {k : t → Prop} (h : Rk (Hm.noX r) E k) : ∃ x, r = .ok x ∧ k x := by
  cases r with
  | ok x => exact ⟨x, rfl, h⟩
  | bad => exact h.elim
  | exc c => exact h.elim
def lcF (ft : Ftg) (tt : Ft) (te : Fe) (δ : Dl) : List D → Rs (List D)
  | [] => .ok []
  | d :: ds => Rs.of (ft d δ) >>= fun δ1 => noX (tt δ1) >>= fun b => if b = true then noX (te δ1) >>= fun x => lcF ft tt te δ ds >>= fun xs => .ok (x :: xs) else lcF ft tt te δ ds
def fLc (vs : List Nat) (fi : Fa) (ft : Ftg) (tt : Ft) (te : Fe) : Fe := fun δ => fi δ >>= fun ds => Rs.need (fits ds.length) >>= fun _ => lcF ft tt te (wipeS δ vs) ds >>= fun xs => .ok (.list xs)
def tYesF : Ft := fun _ => .ok true
theorem wipe_eq {σ σ' : St} {vs : List Nat} (hl : σ'.length = σ.length) (h : ∀ j, j ∉ vs → σ'[j]? = (L2.wipe σ vs)[j]?) : L2.wipe σ' vs = L2.wipe σ vs := by
  have hw : ∀ (τ : St) (us : List Nat) (j : Nat), (L2.wipe τ us)[j]? = if j ∈ us then (τ[j]?).map (fun _ => none) else τ[j]? := by
    intro τ us
    induction us with
    | nil => intro j; simp [L2.wipe]
    | cons u us ih =>
      intro j
      show ((L2.wipe τ us).set u none)[j]? = _
      by_cases hj : u = j
      · subst hj
        rw [List.getElem?_set]
        simp only [if_true, wipe_length, List.mem_cons, true_or]
        by_cases hu : u < τ.length
        · rw [if_pos hu, List.getElem?_eq_getElem hu]; rfl
        · rw [if_neg hu, List.getElem?_eq_none (by omega)]; rfl
      · rw [List.getElem?_set_ne hj, ih]
        have : (j ∈ u :: us) ↔ j ∈ us := by simp [Ne.symm hj]
        simp only [this]
  refine List.ext_getElem? fun j => ?_
  rw [hw, hw]
  by_cases hj : j ∈ vs
  · simp only [hj, if_true]
    by_cases hlt : j < σ.length
    · rw [List.getElem?_eq_getElem hlt, List.getElem?_eq_getElem (by omega)]; rfl
    · rw [List.getElem?_eq_none (by omega), List.getElem?_eq_none (by omega)]
  · have := h j hj
    rw [hw] at this
    simp only [hj, if_false] at this ⊢
    exact this
section
variable {X : Cx} {R : Rl X.K X.w} {Ew : Ews} {e a b : Expr} {fa : Fe} {pos : Pos}
theorem lc_rd {fi : Fa} {g : TG} {ft : Ftg} {tt : Ft} {te : Fe} {vs : List Nat} {σ : St} {H : Hp} {Q : VK} (hv : ∀ v ∈ vs, v < X.N.length) (hl : σ.length = X.N.length) (hg : GdP R X.N.length g ft vs) (h : tE R Ew .nw (fLc vs fi ft tt te) σ H Q) :
    tLc (tI R Ew fi) g (tT R Ew0 tt) (tE R Ew0 .da te) vs σ H Q := by
  obtain ⟨δ, p, q⟩ := h
  refine ⟨δ, p, (Rk.bind q).mono (fun _ z => z) fun ds _ q J H1 e1 st => ?_⟩
  obtain ⟨hz, q⟩ := (Rk.bind q).need
  have hz := fits_le hz
  intro Dd hD
  have pw : ∀ {H' : Hp}, Ex H1 H' → R.P (L2.wipe σ vs) H' (wipeS δ vs) := fun e' => R.wipe (R.ex p (e1.tr e')) (fun v hvv => by rw [hl]; exact hv v hvv)
  refine ⟨fun i m H' => m = ds.length - i ∧ i ≤ ds.length ∧ ∃ acc ys, Ex H1 H' ∧ H' Dd = some (.lst acc) ∧ DaL X.K X.w H' acc ys ∧ acc.length ≤ i ∧
    Rk (lcF ft tt te (wipeS δ vs) (ds.drop i)) (EW Ew δ H) (fun xs => ∀ v H', Ex H H' → Nw X.K X.w H H' v (.list (ys ++ xs)) → Q v H'), ⟨ds.length, rfl, Nat.zero_le _, [], [], Ex.nw hD, upd_same, .nil, Nat.zero_le _, ?_⟩, ?_⟩
  · rw [List.drop_zero]
    exact (Rk.bind q).mono (fun _ z => z) fun xs _ z v H' e' n => z v H' e' n
  · rintro i m H' ⟨rfl, hi, acc, ys, eH, hacc, hda, hai, q⟩
    by_cases hlt : i < ds.length
    · have hd : ds[i]? = some ds[i] := List.getElem?_eq_getElem _
      refine .inr ⟨st.go i H' _ eH.kp hd, fun H3 => ∃ acc ys, Ex H1 H3 ∧ H3 Dd = some (.lst acc) ∧ DaL X.K X.w H3 acc ys ∧ acc.length ≤ i + 1 ∧
        Rk (lcF ft tt te (wipeS δ vs) (ds.drop (i + 1))) (EW Ew δ H) (fun xs => ∀ v H', Ex H H' → Nw X.K X.w H H' v (.list (ys ++ xs)) → Q v H'), fun H3 h3 => ⟨ds.length - (i + 1), by omega, rfl, by omega, h3⟩, fun x H2 y => ?_⟩
      obtain ⟨e2, hx⟩ := st.yld i H' _ x H2 eH.kp hd y
      rw [List.drop_eq_getElem_cons hlt, lcF] at q
      obtain ⟨δ1, hf, q⟩ := (Rk.bind q).of
      refine hg x _ _ H2 _ _ (by rw [wipe_length]; exact hl) (pw (eH.tr e2)) hx δ1 hf fun σ2 l2 p2 k2 => ⟨wipe_eq (by rw [l2, hl]) k2, ?_⟩
      obtain ⟨b, hb, q⟩ := (Rk.bind q).noX
      refine ⟨δ1, p2, Rk.ok hb fun H3 e3 => ?_⟩
      have k3 : Ex H1 H3 := (eH.tr e2).tr e3
      cases b with
      | true =>
        obtain ⟨z, hz', q⟩ := (Rk.bind q).noX
        show tE R Ew0 .da te σ2 H3 _
        refine ⟨δ1, R.ex p2 e3, Rk.ok hz' fun v H4 e4 hv4 => ?_⟩
        have k4 : Ex H' H4 := (e2.tr e3).tr e4
        have hD' : H1 Dd = none := hD
        refine ⟨acc, k4 _ _ hacc, Nat.lt_of_le_of_lt hai (Nat.lt_of_lt_of_le hlt hz), acc ++ [v], ys ++ [z], (k3.tr e4).mt hD', upd_same, ?_, by simp; omega, ?_⟩
        · refine DaL.kp (Kp.mt (.inl ?_)) ((hda.ex k4).append (.cons hv4 .nil))
          rw [k4 _ _ hacc]; trivial
        · refine (Rk.bind q).mono (fun _ z => z) fun xs _ w' v H' e' n => w' v H' e' ?_
          rw [List.append_assoc] at n
          exact n
      | false =>
        show ∃ acc ys, _
        exact ⟨acc, ys, k3, (e2.tr e3) _ _ hacc, hda.ex (e2.tr e3), by omega, q⟩
    · have hi' : i = ds.length := by omega
      subst hi'
      refine .inl ⟨st.stop _ H' eH.kp rfl, ?_⟩
      rw [List.drop_length] at q
      have q : ∀ v H', Ex H H' → Nw X.K X.w H H' v (.list (ys ++ [])) → Q v H' := q
      rw [List.append_nil] at q
      exact q _ _ (e1.tr eH) (.lst (e1.fresh hD) hacc hda)
theorem ed_lc {elt tg iter : Expr} {ifs : List Expr} {scope : Scope} {own : List (Str × Nat)} {fi : Fa} {g : TG} {ft : Ftg} {tt : Ft} {te : Fe} (hc : X.calm = true) (hN : X.N.Nodup) (hi : PI X tg iter (tI R Ew fi)) (ok : BlkOk X.N X.env.scope scope own)
    (hv : ∀ v ∈ own.map (·.2), v < X.N.length) (hgd : GdP R X.N.length g ft (own.map (·.2)))
    (hg : ∀ (s : Shared) (H : Hp) (C : Addr) (cl : List (Str × Addr)) (fp : List Addr), PG (X.blk s H scope (compEnvC scope cl C X.env) fp) tg g)
    (ht : ∀ (s : Shared) (H : Hp) (C : Addr) (cl : List (Str × Addr)) (fp : List Addr), PTs (X.blk s H scope (compEnvC scope cl C X.env) fp) ifs (tT R Ew0 tt))
    (he : ∀ (s : Shared) (H : Hp) (C : Addr) (cl : List (Str × Addr)) (fp : List Addr), PE (X.blk s H scope (compEnvC scope cl C X.env) fp) elt (tE R Ew0 .da te)) (hs : ∀ x, foldedSetIterable iter X.env x = pure x := by intro _; rfl) :
    PE X (.ListComp elt [⟨tg, iter, ifs, 0⟩] scope pos) (tE R Ew .nw (fLc (own.map (·.2)) fi ft tt te)) :=
  PE.impI (pe_lc hc hN hi ok hg ht he hs) fun pins s σ H Q I h => lc_rd hv I.len hgd h
theorem PTs.imp {X : Cx} {ifs : List Expr} {t t' : TT} (h : PTs X ifs t) (i : ∀ σ H Q, t' σ H Q → t σ H Q) : PTs X ifs t' := ⟨fun pins s σ H Q I q => h.run pins s σ H Q I (i σ H Q q)⟩
theorem ets_nil {R : Rl X.K X.w} : PTs X [] (tT R Ew tYesF) := PTs.imp pts_nil fun σ H Q ⟨δ, p, q⟩ => q H (Ex.rf H)
theorem ets_one {c : Expr} {f : Ft} (h : PT X c (tT R Ew f)) : PTs X [c] (tT R Ew f) := pts_one h
end
end Hm
/-! Hm14: statements -/
namespace Hm
open PySem L2 Ob PySem.SeqAt

/-- what stood and may not change stands -/
def Kb (M : Addr → Prop) (H0 H : Hp) : Prop := ∀ b o, ¬ M b → H0 b = some o → H b = some o
/-- a slot, with the addresses of its own -/
def slS (K : PySem.W.Frag) (w : World) (M : Addr → Prop) (H0 H : Hp) : Option V → Sl → List Addr → Prop
  | _, .no, fp => fp = []
  | some v, .dat d, fp => fp = [] ∧ Da K w H v d
  | some v, .par d, fp => fp = [] ∧ ∀ H', Kb M H0 H' → Kp H0 H' → Sn K w H' v d
  | some v, .own d, fp => ∃ a, v = .ref a ∧ fp = [a] ∧ ((∃ xs ds, d = .list ds ∧ H a = some (.lst xs) ∧ DaL K w H xs ds) ∨ ∃ es kvs, d = .dict kvs ∧ H a = some (dicO a es) ∧ DaE K w H es kvs ∧ (kvs.map fun p => keyOf p.1).Nodup)
  | some v, .own2 kvs, fp => ∃ a es bs, v = .ref a ∧ fp = a :: bs ∧ H a = some (dicO a es) ∧ DaM K w H es bs kvs ∧ (kvs.map fun p => keyOf p.1).Nodup
  | some v, .hnd C st, fp => ∃ a, v = .ref a ∧ HandAt K w C H a st fp
  | none, _, _ => False
structure SS (K : PySem.W.Frag) (w : World) (M : Addr → Prop) (H0 : Hp) (σ : St) (H : Hp) (δ : Dl) : Prop where
  len : δ.length = σ.length
  kb : Kb M H0 H
  kp : Kp H0 H
  own : ∃ fp : Nat → List Addr, (∀ (i : Nat) (s : Sl), δ[i]? = some s → slS K w M H0 H ((σ[i]?).join) s (fp i)) ∧ (∀ i j a, i ≠ j → a ∈ fp i → a ∉ fp j) ∧ (∀ i, (fp i).Nodup) ∧ (∀ i a, a ∈ fp i → H0 a = none ∨ M a) ∧ ∀ i, δ.length ≤ i → fp i = []
section
variable {K : PySem.W.Frag} {w : World} {M : Addr → Prop} {H0 H H' : Hp} {σ : St} {δ : Dl}
theorem DaM.keep (k : Kp H H') : ∀ {es : List DictEntry} {bs : List Addr} {kvs : List (D × List D)}, DaM K w H es bs kvs → (∀ b ∈ bs, H' b = H b) → DaM K w H' es bs kvs
  | _, _, _, .nil, _ => .nil
  | _, _, _, .cons r1 h1 h2 h3 n a, hk => .cons r1 (h1.kp k) (by rw [hk _ List.mem_cons_self]; exact h2) (h3.kp k) n (DaM.keep k a fun b hb => hk b (List.mem_cons_of_mem _ hb))
theorem slS.keep {x : Option V} {s : Sl} {fp : List Addr} (k : Kp H H') (h : slS K w M H0 H x s fp) (hk : ∀ b ∈ fp, H' b = H b) : slS K w M H0 H' x s fp := by
  cases x with
  | none => cases s <;> exact h
  | some v =>
    cases s with
    | no => exact h
    | dat d => exact ⟨h.1, h.2.kp k⟩
    | par d => exact h
    | own d =>
      obtain ⟨a, rfl, rfl, h | h⟩ := h
      · obtain ⟨xs, ds, rfl, h1, h2⟩ := h
        exact ⟨a, rfl, rfl, .inl ⟨xs, ds, rfl, by rw [hk a (by simp)]; exact h1, h2.kp k⟩⟩
      · obtain ⟨es, kvs, rfl, h1, h2, h3⟩ := h
        exact ⟨a, rfl, rfl, .inr ⟨es, kvs, rfl, by rw [hk a (by simp)]; exact h1, h2.kp k, h3⟩⟩
    | own2 kvs =>
      obtain ⟨a, es, bs, rfl, rfl, h1, h2, h3⟩ := h
      exact ⟨a, es, bs, rfl, rfl, by rw [hk a (by simp)]; exact h1, h2.keep k fun b hb => hk b (List.mem_cons_of_mem _ hb), h3⟩
    | hnd C st =>
      obtain ⟨a, rfl, h⟩ := h
      exact ⟨a, rfl, h.keep (fun b hb o e => by rw [hk b hb]; exact e) k⟩
theorem DaM.mem : ∀ {es : List DictEntry} {bs : List Addr} {kvs : List (D × List D)}, DaM K w H es bs kvs → ∀ b ∈ bs, ∃ o, H b = some o
  | _, _, _, .nil, b, h => by simp at h
  | _, _, _, .cons r1 h1 h2 h3 n a, b, h => by
    rcases List.mem_cons.mp h with rfl | h
    · exact ⟨_, h2⟩
    · exact DaM.mem a b h
/-- what a slot owns is tracked -/
theorem slS.mem {x : Option V} {s : Sl} {fp : List Addr} (h : slS K w M H0 H x s fp) : ∀ b ∈ fp, ∃ o, H b = some o := by
  intro b hb
  cases x with
  | none =>
    cases s with
    | no => rw [show fp = [] from h] at hb; simp at hb
    | _ => exact h.elim
  | some v =>
    cases s with
    | no => rw [show fp = [] from h] at hb; simp at hb
    | dat d => rw [h.1] at hb; simp at hb
    | par d => rw [h.1] at hb; simp at hb
    | own d =>
      obtain ⟨a, rfl, rfl, h | h⟩ := h
      · obtain ⟨xs, ds, rfl, h1, h2⟩ := h
        simp at hb; subst hb; exact ⟨_, h1⟩
      · obtain ⟨es, kvs, rfl, h1, h2, h3⟩ := h
        simp at hb; subst hb; exact ⟨_, h1⟩
    | own2 kvs =>
      obtain ⟨a, es, bs, rfl, rfl, h1, h2, h3⟩ := h
      rcases List.mem_cons.mp hb with rfl | hb
      · exact ⟨_, h1⟩
      · exact h2.mem b hb
    | hnd C st =>
      obtain ⟨a, rfl, dx, kn, wt, dd, un, vn, es, fs, xs, ys, rfl, h1, h2, h3, h4, h5, h6, h7, h8, h9, h10, h11, h12, h13⟩ := h
      simp only [List.mem_cons, List.not_mem_nil, or_false] at hb
      rcases hb with rfl | rfl | rfl | rfl | rfl | rfl
      · exact ⟨_, h1⟩
      · exact ⟨_, h2⟩
      · exact ⟨_, h4⟩
      · exact ⟨_, h7⟩
      · exact ⟨_, h10⟩
      · exact ⟨_, h12⟩
theorem slS.slV {x : Option V} {s : Sl} {fp : List Addr} (h : slS K w M H0 H x s fp) (kb : Kb M H0 H) (kp : Kp H0 H) : slV K w H x s := by
  cases x with
  | none => cases s <;> first | trivial | exact h.elim
  | some v =>
    cases s with
    | no => trivial
    | dat d => exact h.2
    | par d => exact h.2 H kb kp
    | own d =>
      obtain ⟨a, rfl, rfl, h | h⟩ := h
      · obtain ⟨xs, ds, rfl, h1, h2⟩ := h
        exact Sn.lst h1 h2
      · obtain ⟨es, kvs, rfl, h1, h2, h3⟩ := h
        exact Sn.dic h1 h2 h3
    | own2 kvs =>
      obtain ⟨a, es, bs, rfl, rfl, h1, h2, h3⟩ := h
      exact ⟨a, es, bs, rfl, h1, h2, h3⟩
    | hnd C st =>
      obtain ⟨a, rfl, h⟩ := h
      exact ⟨a, fp, rfl, h⟩
theorem SS.toP (h : SS K w M H0 σ H δ) : (plainRl K w).P σ H δ := by
  obtain ⟨hl, kb, kp, fp, h1, _⟩ := h
  exact ⟨hl, fun i s e => (h1 i s e).slV kb kp⟩
theorem SS.ex (h : SS K w M H0 σ H δ) (e : Ex H H') : SS K w M H0 σ H' δ := by
  obtain ⟨hl, kb, kp, fp, h1, h2, h3, h4, h5⟩ := h
  refine ⟨hl, fun b o n q => e b o (kb b o n q), kp.trans e.kp, fp, fun i s q => (h1 i s q).keep e.kp fun b hb => ?_, h2, h3, h4, h5⟩
  obtain ⟨o, ho⟩ := (h1 i s q).mem b hb
  rw [ho]
  exact e b o ho
/-- one slot is set anew; its own addresses are fq -/
theorem SS.setSlot {i : Nat} {x : Option V} {s : Sl} {fq : List Addr} (h : SS K w M H0 σ H δ) (hi : i < σ.length) (hs : slS K w M H0 H x s fq) (hq : fq.Nodup) (hq0 : ∀ a ∈ fq, H0 a = none ∨ M a)
    (hnew : ∀ fp : Nat → List Addr, (∀ (j : Nat) (s : Sl), δ[j]? = some s → slS K w M H0 H ((σ[j]?).join) s (fp j)) → (∀ i j a, i ≠ j → a ∈ fp i → a ∉ fp j) → ∀ a ∈ fq, ∀ j, j ≠ i → a ∉ fp j) : SS K w M H0 (σ.set i x) H (δ.set i s) := by
  obtain ⟨hl, kb, kp, fp, h1, h2, h3, h4, h5⟩ := h
  have hn := hnew fp h1 h2
  refine ⟨by simpa using hl, kb, kp, fun j => if j = i then fq else fp j, fun j t ht => ?_, fun j l a hjl ha hb => ?_, fun j => ?_, fun j a ha => ?_, fun j hj => ?_⟩
  · by_cases hj : i = j
    · subst hj
      rw [List.getElem?_set_self (by rw [hl]; exact hi)] at ht
      cases ht
      rw [List.getElem?_set_self hi]
      simpa using hs
    · rw [List.getElem?_set_ne hj] at ht ⊢
      simp only [Ne.symm hj, if_false]
      exact h1 j t ht
  · by_cases hj : j = i <;> by_cases hk : l = i <;> simp only [hj, hk, if_true, if_false] at ha hb
    · exact hjl (hj.trans hk.symm)
    · exact hn a ha l hk hb
    · exact hn a hb j hj ha
    · exact h2 j l a hjl ha hb
  · by_cases hj : j = i <;> simp only [hj, if_true, if_false]
    · exact hq
    · exact h3 j
  · by_cases hj : j = i <;> simp only [hj, if_true, if_false] at ha
    · exact hq0 a ha
    · exact h4 j a ha
  · have hj' : ¬ j = i := by
      have : δ.length ≤ j := by simpa using hj
      omega
    simp only [hj', if_false]
    exact h5 j (by simpa using hj)
theorem SS.setDat {i : Nat} {v : V} {d : D} (h : SS K w M H0 σ H δ) (hi : i < σ.length) (hd : Da K w H v d) : SS K w M H0 (σ.set i (some v)) H (δ.set i (.dat d)) :=
  h.setSlot hi (fq := []) ⟨rfl, hd⟩ List.nodup_nil (fun a ha => by simp at ha) fun _ _ _ a ha => by simp at ha
theorem SS.unset {i : Nat} {x : Option V} (h : SS K w M H0 σ H δ) (hi : i < σ.length) : SS K w M H0 (σ.set i x) H (δ.set i .no) :=
  h.setSlot hi (fq := []) (by cases x <;> exact rfl) List.nodup_nil (fun a ha => by simp at ha) fun _ _ _ a ha => by simp at ha
theorem slot_lt {fp : Nat → List Addr} (h1 : ∀ (j : Nat) (s : Sl), δ[j]? = some s → slS K w M H0 H ((σ[j]?).join) s (fp j)) (h5 : ∀ i, δ.length ≤ i → fp i = []) {a : Addr} (ha : H a = none) (j : Nat) : a ∉ fp j := fun hm => by
  by_cases hj : j < δ.length
  · obtain ⟨o, ho⟩ := (h1 j _ (List.getElem?_eq_getElem hj)).mem a hm
    rw [ha] at ho; cases ho
  · rw [h5 j (by omega)] at hm; simp at hm
/-- a new list or dict is given to a slot -/
theorem SS.setNew {i : Nat} {v : V} {d : D} (h : SS K w M H0 σ H δ) (hi : i < σ.length) (e : Ex H H') (n : Nw K w H H' v d) (hd : (∃ ds, d = .list ds) ∨ ∃ kvs, d = .dict kvs) : SS K w M H0 (σ.set i (some v)) H' (δ.set i (.own d)) := by
  have h' := h.ex e
  have fresh0 : ∀ a, H a = none → H0 a = none ∨ M a := fun a ha => by
    cases q : H0 a with
    | none => exact .inl rfl
    | some o =>
      by_cases hm : M a
      · exact .inr hm
      · have := h.kb a o hm q
        rw [ha] at this; cases this
  obtain ⟨hl, kb, kp, fp, h1, h2, h3, h4, h5⟩ := id h
  have key : ∀ a, H a = none → slS K w M H0 H' (some (.ref a)) (.own d) [a] → SS K w M H0 (σ.set i (some (.ref a))) H' (δ.set i (.own d)) := fun a ha hs => by
    refine ⟨by simpa using hl, h'.kb, h'.kp, fun j => if j = i then [a] else fp j, fun j t ht => ?_, fun j l b hjl hb hc => ?_, fun j => ?_, fun j b hb => ?_, fun j hj => ?_⟩
    · by_cases hj : i = j
      · subst hj
        rw [List.getElem?_set_self (by rw [hl]; exact hi)] at ht
        cases ht
        rw [List.getElem?_set_self hi]
        simpa using hs
      · rw [List.getElem?_set_ne hj] at ht ⊢
        simp only [Ne.symm hj, if_false]
        refine (h1 j t ht).keep e.kp fun b hb => ?_
        obtain ⟨o, ho⟩ := (h1 j t ht).mem b hb
        rw [ho]; exact e b o ho
    · by_cases hj : j = i <;> by_cases hk : l = i <;> simp only [hj, hk, if_true, if_false] at hb hc
      · exact hjl (hj.trans hk.symm)
      · simp at hb; subst hb; exact slot_lt h1 h5 ha l hc
      · simp at hc; subst hc; exact slot_lt h1 h5 ha j hb
      · exact h2 j l b hjl hb hc
    · by_cases hj : j = i <;> simp only [hj, if_true, if_false]
      · simp
      · exact h3 j
    · by_cases hj : j = i <;> simp only [hj, if_true, if_false] at hb
      · simp at hb; subst hb; exact fresh0 _ ha
      · exact h4 j b hb
    · have hj' : ¬ j = i := by
        have : δ.length ≤ j := by simpa using hj
        omega
      simp only [hj', if_false]
      exact h5 j (by simpa using hj)
  rcases hd with ⟨ds, rfl⟩ | ⟨kvs, rfl⟩
  · cases n with
    | lst hn hl' hda => exact key _ hn ⟨_, rfl, rfl, .inl ⟨_, _, rfl, hl', hda⟩⟩
  · cases n with
    | dic hn hl' hda hnd => exact key _ hn ⟨_, rfl, rfl, .inr ⟨_, _, rfl, hl', hda, hnd⟩⟩
/-- an own list or dict at a slot is written -/
theorem SS.write {i : Nat} {a : Addr} {d d' : D} {o' : HO} (h : SS K w M H0 σ H δ) (hi : δ[i]? = some (.own d)) (hv : (σ[i]?).join = some (.ref a)) (mu : Mut (H a))
    (hs : Kp H (upd H a o') → ((∃ xs ds, d' = .list ds ∧ o' = .lst xs ∧ DaL K w (upd H a o') xs ds) ∨ ∃ es kvs, d' = .dict kvs ∧ o' = dicO a es ∧ DaE K w (upd H a o') es kvs ∧ (kvs.map fun p => keyOf p.1).Nodup)) : SS K w M H0 σ (upd H a o') (δ.set i (.own d')) := by
  obtain ⟨hl, kb, kp, fp, h1, h2, h3, h4, h5⟩ := h
  have hsi := h1 i _ hi
  rw [hv] at hsi
  obtain ⟨a', e1, e2, _⟩ := hsi
  cases e1
  have hk : Kp H (upd H a o') := Kp.mt (.inl mu)
  have ha0 := h4 i a (by rw [e2]; simp)
  refine ⟨by simpa using hl, fun b o n q => ?_, kp.trans hk, fp, fun j t ht => ?_, h2, h3, h4, fun j hj => h5 j (by simpa using hj)⟩
  · have : b ≠ a := fun z => by
      subst z
      rcases ha0 with z | z
      · rw [z] at q; cases q
      · exact n z
    rw [upd_ne this]; exact kb b o n q
  · by_cases hj : i = j
    · subst hj
      rw [List.getElem?_set_self (List.getElem?_eq_some_iff.mp hi).1] at ht
      cases ht
      rw [hv]
      refine ⟨a, rfl, e2, ?_⟩
      rcases hs hk with ⟨xs, ds, rfl, rfl, h⟩ | ⟨es, kvs, rfl, rfl, h, hn⟩
      · exact .inl ⟨xs, ds, rfl, upd_same, h⟩
      · exact .inr ⟨es, kvs, rfl, upd_same, h, hn⟩
    · rw [List.getElem?_set_ne hj] at ht
      exact (h1 j t ht).keep hk fun b hb => upd_ne fun z => h2 j i b (Ne.symm hj) hb (by rw [z, e2]; simp)
/-- the own list at a slot -/
theorem SS.ownL {i : Nat} {ds : List D} (h : SS K w M H0 σ H δ) (hi : δ[i]? = some (.own (.list ds))) : ∃ a xs, σ[i]? = some (some (.ref a)) ∧ H a = some (.lst xs) ∧ DaL K w H xs ds := by
  obtain ⟨hl, kb, kp, fp, h1, h2, h3, h4, h5⟩ := h
  have hsi := h1 i _ hi
  cases hx : σ[i]? with
  | none => rw [hx] at hsi; exact hsi.elim
  | some ov =>
    rw [hx] at hsi
    cases ov with
    | none => exact hsi.elim
    | some v =>
      obtain ⟨a, rfl, _, h | h⟩ := hsi
      · obtain ⟨xs, ds', e, h1, h2⟩ := h
        cases e
        exact ⟨a, xs, rfl, h1, h2⟩
      · obtain ⟨es, kvs, e, _⟩ := h; cases e
theorem SS.ownD {i : Nat} {kvs : List (D × D)} (h : SS K w M H0 σ H δ) (hi : δ[i]? = some (.own (.dict kvs))) : ∃ a es, σ[i]? = some (some (.ref a)) ∧ H a = some (dicO a es) ∧ DaE K w H es kvs ∧ (kvs.map fun p => keyOf p.1).Nodup := by
  obtain ⟨hl, kb, kp, fp, h1, h2, h3, h4, h5⟩ := h
  have hsi := h1 i _ hi
  cases hx : σ[i]? with
  | none => rw [hx] at hsi; exact hsi.elim
  | some ov =>
    rw [hx] at hsi
    cases ov with
    | none => exact hsi.elim
    | some v =>
      obtain ⟨a, rfl, _, h | h⟩ := hsi
      · obtain ⟨xs, ds', e, h1, h2⟩ := h; cases e
      · obtain ⟨es, kvs', e, h1, h2, h3⟩ := h
        cases e
        exact ⟨a, es, rfl, h1, h2, h3⟩
end
end Hm
/-! Hm15: the judgement for statements -/
namespace Hm
open PySem L2 Ob PySem.SeqAt

/-- how a statement ends -/
inductive So where
  | bad
  | exc (c : Str) (δ : Dl)
  | nx (δ : Dl)
  | rt (d : D) (δ : Dl)
  | bk (δ : Dl)
  | ct (δ : Dl)
abbrev Fs := Dl → So
def So.of {t : Type} (δ : Dl) (k : t → So) : Rs t → So
  | .ok x => k x
  | .exc c => .exc c δ
  | .bad => .bad
@[simp] theorem So.of_ok {t : Type} (δ : Dl) (k : t → So) (x : t) : So.of δ k (.ok x) = k x := rfl
@[simp] theorem So.of_exc {t : Type} (δ : Dl) (k : t → So) (c : Str) : So.of δ k (.exc c) = .exc c δ := rfl
@[simp] theorem So.of_bad {t : Type} (δ : Dl) (k : t → So) : So.of δ k .bad = .bad := rfl
section
variable {K : PySem.W.Frag} {w : World} (M : Addr → Prop) (H0 : Hp) (Ew : Ews)
/-- what is wanted of an end, from the heap Hb on, with n slots -/
def Sk (K : PySem.W.Frag) (w : World) (Hb : Hp) (n : Nat) (D : Ends) : So → Prop
  | .bad => False
  | .exc c δ => ∀ σ H, SS K w M H0 σ H δ → Ew c δ H
  | .nx δ => ∀ σ H, SS K w M H0 σ H δ → Kp Hb H → σ.length = n → D.nx σ H
  | .rt d δ => ∀ v σ H, SS K w M H0 σ H δ → Da K w H v d → D.rt v H
  | .bk δ => ∀ σ H, SS K w M H0 σ H δ → Kp Hb H → σ.length = n → D.bk σ H
  | .ct δ => ∀ σ H, SS K w M H0 σ H δ → Kp Hb H → σ.length = n → D.ct σ H
def tS (K : PySem.W.Frag) (w : World) (g : Fs) : TS := fun D σ H => ∃ δ, SS K w M H0 σ H δ ∧ Sk M H0 Ew K w H σ.length D (g δ)
end
theorem Sk.mono {K : PySem.W.Frag} {w : World} {M : Addr → Prop} {H0 : Hp} {Ew : Ews} {Hb Hc : Hp} {n : Nat} {D : Ends} {o : So} (k : Kp Hb Hc) (h : Sk M H0 Ew K w Hb n D o) : Sk M H0 Ew K w Hc n D o := by
  cases o with
  | bad => exact h
  | exc c δ => exact h
  | rt d δ => exact h
  | nx δ => exact fun σ H a b c => h σ H a (k.trans b) c
  | bk δ => exact fun σ H a b c => h σ H a (k.trans b) c
  | ct δ => exact fun σ H a b c => h σ H a (k.trans b) c
section
variable {X : Cx} {M : Addr → Prop} {H0 : Hp} {Ew : Ews} {e a b c : Expr} {pos : Pos} {st : Stmt} {rest : List Stmt}
theorem PS.imp {t t' : TS} (h : PS X st t) (i : ∀ D σ H, t' D σ H → t D σ H) : PS X st t' := ⟨fun pins s σ H D I q => h.run pins s σ H D I (i D σ H q)⟩
theorem PSs.imp {t t' : TS} (h : PSs X rest t) (i : ∀ D σ H, t' D σ H → t D σ H) : PSs X rest t' := ⟨fun pins s σ H D I q => h.run pins s σ H D I (i D σ H q)⟩
theorem PS.impI {t t' : TS} (h : PS X st t) (i : ∀ pins s D σ H, Inv X pins σ H s → t' D σ H → t D σ H) : PS X st t' := ⟨fun pins s σ H D I q => h.run pins s σ H D I (i pins s D σ H I q)⟩

/-- an expression at the head of a statement -/
theorem tE_st {m : Md} {f : Fe} {k : D → So} {σ : St} {H : Hp} {δ : Dl} {Q : VK} {Dn : Ends} (h : SS X.K X.w M H0 σ H δ) {n : Nat} (q : Sk M H0 Ew X.K X.w H n Dn (So.of δ k (f δ)))
    (hk : ∀ d v H1, SS X.K X.w M H0 σ H1 δ → Ex H H1 → Res X.K X.w m H H1 v d → Sk M H0 Ew X.K X.w H1 n Dn (k d) → Q v H1) : tE (plainRl X.K X.w) Ew m f σ H Q := by
  refine ⟨δ, h.toP, ?_⟩
  cases hf : f δ with
  | bad => rw [hf] at q; exact q
  | exc c => rw [hf] at q; exact fun H' e' => q σ H' (h.ex e')
  | ok d => rw [hf] at q; exact fun v H1 e1 r => hk d v H1 (h.ex e1) e1 r (Sk.mono e1.kp q)
theorem tT_st {f : Ft} {k : Bool → So} {σ : St} {H : Hp} {δ : Dl} {Q : Bool → Hp → Prop} {Dn : Ends} (h : SS X.K X.w M H0 σ H δ) {n : Nat} (q : Sk M H0 Ew X.K X.w H n Dn (So.of δ k (f δ)))
    (hk : ∀ b H1, SS X.K X.w M H0 σ H1 δ → Ex H H1 → Sk M H0 Ew X.K X.w H1 n Dn (k b) → Q b H1) : tT (plainRl X.K X.w) Ew f σ H Q := by
  refine ⟨δ, h.toP, ?_⟩
  cases hf : f δ with
  | bad => rw [hf] at q; exact q
  | exc c => rw [hf] at q; exact fun H' e' => q σ H' (h.ex e')
  | ok d => rw [hf] at q; exact fun H1 e1 => hk d H1 (h.ex e1) e1 (Sk.mono e1.kp q)

/-! ### blocks -/
def gNx : Fs := fun δ => .nx δ
def gSeq (g1 g2 : Fs) : Fs := fun δ => match g1 δ with
  | .nx δ' => g2 δ'
  | r => r
theorem es_nil : PSs X [] (tS M H0 Ew X.K X.w gNx) := PSs.imp pss_nil fun D σ H ⟨δ, h, q⟩ => q σ H h (Kp.refl H) rfl
theorem es_cons {g1 g2 : Fs} (h1 : PS X st (tS M H0 Ew X.K X.w g1)) (h2 : PSs X rest (tS M H0 Ew X.K X.w g2)) : PSs X (st :: rest) (tS M H0 Ew X.K X.w (gSeq g1 g2)) := by
  refine PSs.imp (pss_cons h1 h2) fun D σ H ⟨δ, h, q⟩ => ⟨δ, h, ?_⟩
  unfold gSeq at q
  cases hg : g1 δ with
  | nx δ' => rw [hg] at q; exact fun σ' H' h' k' l' => ⟨δ', h', by rw [l']; exact Sk.mono k' q⟩
  | bad => rw [hg] at q; exact q
  | exc c δ' => rw [hg] at q; exact q
  | rt d δ' => rw [hg] at q; exact q
  | bk δ' => rw [hg] at q; exact q
  | ct δ' => rw [hg] at q; exact q
theorem es_one {g1 : Fs} (h1 : PS X st (tS M H0 Ew X.K X.w g1)) : PSs X [st] (tS M H0 Ew X.K X.w g1) := pss_one h1
def gIf (c : Ft) (g1 g2 : Fs) : Fs := fun δ => So.of δ (fun b => if b = true then g1 δ else g2 δ) (c δ)
theorem es_if {f : Ft} {xs ys : List Stmt} {g1 g2 : Fs} (hc : PT X c (tT (plainRl X.K X.w) Ew f)) (h1 : PSs X xs (tS M H0 Ew X.K X.w g1)) (h2 : PSs X ys (tS M H0 Ew X.K X.w g2)) : PS X (.If c xs ys pos) (tS M H0 Ew X.K X.w (gIf f g1 g2)) := by
  refine PS.imp (ps_if hc h1 h2) fun D σ H ⟨δ, h, q⟩ => ?_
  refine tT_st h q fun b H1 h1 e1 q1 => ?_
  cases b with
  | true => exact ⟨δ, h1, q1⟩
  | false => exact ⟨δ, h1, q1⟩
def gRet (f : Fe) : Fs := fun δ => So.of δ (fun d => .rt d δ) (f δ)
theorem es_ret {f : Fe} (he : PE X e (tE (plainRl X.K X.w) Ew .da f)) : PS X (.Return (some e) pos) (tS M H0 Ew X.K X.w (gRet f)) := by
  refine PS.imp (ps_ret he) fun D σ H ⟨δ, h, q⟩ => ?_
  exact tE_st h q fun d v H1 h1 e1 r1 q1 => q1 v σ H1 h1 r1
def gRetN : Fs := fun δ => .rt .none δ
theorem es_retN : PS X (.Return none pos) (tS M H0 Ew X.K X.w gRetN) := PS.imp ps_retN fun D σ H ⟨δ, h, q⟩ => q .non σ H h .non
theorem es_pass : PS X (.Pass pos) (tS M H0 Ew X.K X.w gNx) := PS.imp ps_pass fun D σ H ⟨δ, h, q⟩ => q σ H h (Kp.refl H) rfl
theorem es_doc {x : Str} {j : Nat} {pos' : Pos} : PS X (.Expr (.Constant (.str x) j pos) pos') (tS M H0 Ew X.K X.w gNx) := PS.imp ps_doc fun D σ H ⟨δ, h, q⟩ => q σ H h (Kp.refl H) rfl
/-- return xs, xs an own list -/
def gRetO (i : Nat) : Fs := fun δ => match δ[i]? with
  | some (.own (.list ds)) => .rt (.list ds) (δ.set i .no)
  | some (.own (.dict kvs)) => .rt (.dict kvs) (δ.set i .no)
  | _ => .bad
theorem frz_kp {H : Hp} {a : Addr} {o : Obj} {u : HO} (h : H a = some u) (mu : Mut (some u)) : Kp H (upd H a (.frz o u)) := Kp.mt (.inl (by rw [h]; exact mu))
theorem SS.dropS {K : PySem.W.Frag} {w : World} {H H' : Hp} {σ : St} {δ : Dl} {i : Nat} {a : Addr} {s0 : Sl} (h : SS K w M H0 σ H δ) (hi : δ[i]? = some s0) (hk : Kp H H') (hb : ∀ b, b ≠ a → H' b = H b)
    (ho : ∀ fq, slS K w M H0 H ((σ[i]?).join) s0 fq → a ∈ fq) : SS K w M H0 σ H' (δ.set i .no) := by
  obtain ⟨hl, kb, kp, fp, h1, h2, h3, h4, h5⟩ := h
  have hai : a ∈ fp i := ho _ (h1 i _ hi)
  refine ⟨by simpa using hl, fun b o n q => ?_, kp.trans hk, fun j => if j = i then [] else fp j, fun j t ht => ?_, fun j l x hjl hx hy => ?_, fun j => ?_, fun j x hx => ?_, fun j hj => ?_⟩
  · have : b ≠ a := fun z => by
      subst z
      rcases h4 i _ hai with z | z
      · rw [z] at q; cases q
      · exact n z
    rw [hb b this]; exact kb b o n q
  · by_cases hj : i = j
    · subst hj
      rw [List.getElem?_set_self (List.getElem?_eq_some_iff.mp hi).1] at ht
      cases ht
      simp only [if_true]
      cases (σ[i]?).join <;> exact rfl
    · rw [List.getElem?_set_ne hj] at ht
      simp only [Ne.symm hj, if_false]
      exact (h1 j t ht).keep hk fun x hx => hb x fun z => h2 j i x (Ne.symm hj) hx (by rw [z]; exact hai)
  · by_cases hj : j = i <;> by_cases hk : l = i <;> simp only [hj, hk, if_true, if_false] at hx hy <;> first | (simp at hx; done) | (simp at hy; done) | exact h2 j l x hjl hx hy
  · by_cases hj : j = i <;> simp only [hj, if_true, if_false]
    · exact List.nodup_nil
    · exact h3 j
  · by_cases hj : j = i <;> simp only [hj, if_true, if_false] at hx
    · simp at hx
    · exact h4 j x hx
  · by_cases hj' : j = i <;> simp only [hj', if_true, if_false]
    exact h5 j (by simpa using hj)
theorem es_retO {i : Nat} {x : Str} {p1 : Pos} (hN : X.N[i]? = some x) (hv : Vis X.env.scope x) (hd : (x == ("__debug__" : Str)) = false := by decide) (hcd : (x == ("__classdict__" : Str)) = false := by decide) :
    PS X (.Return (some (.Name x p1)) pos) (tS M H0 Ew X.K X.w (gRetO i)) := by
  refine ⟨fun pins s σ H D I ⟨δ, h, q⟩ => ?_⟩
  refine wpAny_Return_some (thn ((pe_var hN hv hd hcd).run pins s σ H (fun v H' => H' = H ∧ σ[i]? = some (some v)) I ?_) fun v s1 ⟨x, H1, I1, r1, e1, hx⟩ => ?_)
  · unfold gRetO at q
    cases hs : δ[i]? with
    | none => rw [hs] at q; exact q.elim
    | some sl =>
      rw [hs] at q
      cases sl with
      | own d =>
        cases d with
        | list ds =>
          obtain ⟨a, xs, h1, _⟩ := h.ownL hs
          exact ⟨_, h1, rfl, h1⟩
        | dict ds =>
          obtain ⟨a, xs, h1, _⟩ := h.ownD hs
          exact ⟨_, h1, rfl, h1⟩
        | _ => exact q.elim
      | _ => exact q.elim
  · subst e1
    unfold gRetO at q
    cases hs : δ[i]? with
    | none => rw [hs] at q; exact q.elim
    | some sl =>
      rw [hs] at q
      cases sl with
      | own d =>
        cases d with
        | list ds =>
          obtain ⟨a, xs, h1, h2, h3⟩ := h.ownL hs
          rw [hx] at h1
          cases h1
          obtain ⟨o, I2⟩ := Inv.frz I1 h2 (by trivial)
          have hk := frz_kp (o := o) h2 (by trivial)
          refine ⟨.ref a, σ, _, I2, r1, q _ σ _ (h.dropS hs hk (fun b hb => upd_ne hb) fun fq hq => ?_) (.lst upd_same (h3.kp hk))⟩
          rw [hx] at hq
          obtain ⟨a', e', e2, _⟩ := hq
          cases e'
          rw [e2]; simp
        | dict ds =>
          obtain ⟨a, xs, h1, h2, h3, h4⟩ := h.ownD hs
          rw [hx] at h1
          cases h1
          obtain ⟨o, I2⟩ := Inv.frz I1 h2 (by trivial)
          have hk := frz_kp (o := o) h2 (by trivial)
          refine ⟨.ref a, σ, _, I2, r1, q _ σ _ (h.dropS hs hk (fun b hb => upd_ne hb) fun fq hq => ?_) (.dic upd_same (h3.kp hk) h4)⟩
          rw [hx] at hq
          obtain ⟨a', e', e2, _⟩ := hq
          cases e'
          rw [e2]; simp
        | _ => exact q.elim
      | _ => exact q.elim

/-! ### assignments -/
def gSet (i : Nat) (f : Fe) : Fs := fun δ => So.of δ (fun d => .nx (δ.set i (.dat d))) (f δ)
def isCont : D → Bool
  | .list _ => true
  | .dict _ => true
  | _ => false
def gOwn (i : Nat) (f : Fe) : Fs := fun δ => So.of δ (fun d => if isCont d = true then .nx (δ.set i (.own d)) else .bad) (f δ)
theorem isCont_ex {d : D} (h : isCont d = true) : (∃ ds, d = .list ds) ∨ ∃ kvs, d = .dict kvs := by
  cases d <;> first | exact .inl ⟨_, rfl⟩ | exact .inr ⟨_, rfl⟩ | cases h
theorem set_rd {i : Nat} {f : Fe} {D : Ends} {σ : St} {H : Hp} (hi : i < σ.length) (h : tS M H0 Ew X.K X.w (gSet i f) D σ H) : tAsg (tE (plainRl X.K X.w) Ew .da f) (gName i) D σ H := by
  obtain ⟨δ, h, q⟩ := h
  exact tE_st h q fun d v H1 h1 e1 r1 q1 => q1 _ H1 (h1.setDat hi r1) (Kp.refl _) (by simp)
theorem own_rd {i : Nat} {f : Fe} {D : Ends} {σ : St} {H : Hp} (hi : i < σ.length) (h : tS M H0 Ew X.K X.w (gOwn i f) D σ H) : tAsg (tE (plainRl X.K X.w) Ew .nw f) (gName i) D σ H := by
  obtain ⟨δ, h, q⟩ := h
  refine tE_st h q fun d v H1 h1 e1 r1 q1 => ?_
  split at q1
  · rename_i hc
    exact q1 _ H1 (h.setNew hi e1 r1 (isCont_ex hc)) (Kp.refl _) (by simp)
  · exact q1.elim
theorem es_set {i : Nat} {x : Str} {f : Fe} {pos' : Pos} (hN : X.N.Nodup) (hi : X.N[i]? = some x) (hx : Loc X.env.scope x) (he : PE X e (tE (plainRl X.K X.w) Ew .da f)) (hs : swapsWith e (some (.Name x pos')) pos.line X.env = pure false := by rfl) (hf : X.fn x = true ∨ X.env.scope.names.lookup x = some .local := by first | exact .inl rfl | exact .inr rfl | assumption) :
    PS X (.Assign [.Name x pos'] e pos) (tS M H0 Ew X.K X.w (gSet i f)) :=
  PS.impI (ps_set hN hi hx he hs hf) fun pins s D σ H I h => set_rd (by rw [I.len]; exact (List.getElem?_eq_some_iff.mp hi).1) h
theorem es_own {i : Nat} {x : Str} {f : Fe} {pos' : Pos} (hN : X.N.Nodup) (hi : X.N[i]? = some x) (hx : Loc X.env.scope x) (he : PE X e (tE (plainRl X.K X.w) Ew .nw f)) (hs : swapsWith e (some (.Name x pos')) pos.line X.env = pure false := by rfl) (hf : X.fn x = true ∨ X.env.scope.names.lookup x = some .local := by first | exact .inl rfl | exact .inr rfl | assumption) :
    PS X (.Assign [.Name x pos'] e pos) (tS M H0 Ew X.K X.w (gOwn i f)) :=
  PS.impI (ps_set hN hi hx he hs hf) fun pins s D σ H I h => own_rd (by rw [I.len]; exact (List.getElem?_eq_some_iff.mp hi).1) h
/-- an expression statement -/
def gDrop (f : Fe) : Fs := fun δ => So.of δ (fun _ => .nx δ) (f δ)
theorem es_expr {f : Fe} {m : Md} (he : PE X e (tE (plainRl X.K X.w) Ew m f)) (hs : swapsWith e none pos.line X.env = pure false := by rfl) : PS X (.Expr e pos) (tS M H0 Ew X.K X.w (gDrop f)) := by
  refine PS.imp (ps_expr he hs) fun D σ H ⟨δ, h, q⟩ => ?_
  exact tE_st h q fun d v H1 h1 e1 r1 q1 => q1 σ H1 h1 (Kp.refl _) rfl
/-- y = [..] on one line, y a local that no block captures -/
theorem es_setLc {i : Nat} {y : Str} {py : Pos} {elt tg iter : Expr} {ifs : List Expr} {scope : Scope} {own : List (Str × Nat)} {pos spos : Pos} {fi : Fa} {g : TG} {ft : Ftg} {tt : Ft} {te : Fe} (hc : X.calm = true) (hN : X.N.Nodup) (hy : X.N[i]? = some y) (hyl : X.env.scope.names.lookup y = some .local)
    (hsw : swapsWith (.ListComp elt [⟨tg, iter, ifs, 0⟩] scope pos) (some (.Name y py)) spos.line X.env = pure true) (hi : PI X tg iter (tI (plainRl X.K X.w) Ew fi)) (ok : BlkOk X.N X.env.scope scope own) (hv : ∀ v ∈ own.map (·.2), v < X.N.length)
    (hgd : GdP (plainRl X.K X.w) X.N.length g ft (own.map (·.2)))
    (hg : ∀ (s : Shared) (H : Hp) (C : Addr) (cl : List (Str × Addr)) (fp : List Addr), PG (X.blk s H scope (compEnvC scope cl C X.env) fp) tg g)
    (ht : ∀ (s : Shared) (H : Hp) (C : Addr) (cl : List (Str × Addr)) (fp : List Addr), PTs (X.blk s H scope (compEnvC scope cl C X.env) fp) ifs (tT (plainRl X.K X.w) Ew0 tt))
    (he : ∀ (s : Shared) (H : Hp) (C : Addr) (cl : List (Str × Addr)) (fp : List Addr), PE (X.blk s H scope (compEnvC scope cl C X.env) fp) elt (tE (plainRl X.K X.w) Ew0 .da te)) (hs : ∀ x, foldedSetIterable iter X.env x = pure x := by intro _; rfl) :
    PS X (.Assign [.Name y py] (.ListComp elt [⟨tg, iter, ifs, 0⟩] scope pos) spos) (tS M H0 Ew X.K X.w (gOwn i (fLc (own.map (·.2)) fi ft tt te))) := by
  refine PS.impI (ps_setLc (i := i) hc hN hy hyl hsw hi ok hg ht he hs) fun pins s D σ H I h => ?_
  have hi' : i < σ.length := by rw [I.len]; exact (List.getElem?_eq_some_iff.mp hy).1
  have := own_rd (X := X) hi' h
  exact lc_rd hv I.len hgd this
end
end Hm
/-! Hm16: statements, continued: loops, lists and dicts of one's own -/
namespace Hm
open PySem L2 Ob PySem.SeqAt

section
variable {X : Cx} {M : Addr → Prop} {H0 : Hp} {Ew : Ews} {e a b c : Expr} {pos : Pos} {st : Stmt} {rest : List Stmt}
theorem set_same {t : Type} {l : List t} {i : Nat} {x : t} (h : l[i]? = some x) : l.set i x = l := by
  refine List.ext_getElem? fun j => ?_
  by_cases hj : i = j
  · subst hj
    rw [List.getElem?_set_self (List.getElem?_eq_some_iff.mp h).1, h]
  · rw [List.getElem?_set_ne hj]
theorem fLc_list {vs : List Nat} {fi : Fa} {ft : Ftg} {tt : Ft} {te : Fe} : ∀ δ d, fLc vs fi ft tt te δ = .ok d → isCont d = true := by
  intro δ d h
  unfold fLc at h
  obtain ⟨ds, _, h⟩ := Rs.bind_ok h
  obtain ⟨_, _, h⟩ := Rs.bind_ok h
  obtain ⟨xs, _, h⟩ := Rs.bind_ok h
  cases h
  rfl
/-- a new list that is not written later: locked at once -/
theorem es_fz {i : Nat} {f : Fe} (hf : ∀ δ d, f δ = .ok d → isCont d = true) (hN : i < X.N.length) (h : PS X st (tS M H0 Ew X.K X.w (gOwn i f))) : PS X st (tS M H0 Ew X.K X.w (gSet i f)) := by
  refine ⟨fun pins s σ H D I ⟨δ, hs, q⟩ => ?_⟩
  refine thn (h.run pins s σ H { nx := fun σ' H' => ∃ d, f δ = .ok d ∧ SS X.K X.w M H0 σ' H' (δ.set i (.own d)) ∧ Kp H H' ∧ σ'.length = σ.length, rt := fun _ _ => False } I ⟨δ, hs, ?_⟩) fun fl s1 q1 => ?_
  · unfold gSet at q
    unfold gOwn
    cases hd : f δ with
    | bad => rw [hd] at q; exact q
    | exc c => rw [hd] at q; exact q
    | ok d =>
      simp only [So.of_ok, hf δ d hd, if_true]
      exact fun σ' H' h' k' l' => ⟨d, rfl, h', k', l'⟩
  · cases fl with
    | next =>
      obtain ⟨σ', H', I', d, hd, h', k', l'⟩ := q1
      unfold gSet at q
      rw [hd] at q
      have hil : i < σ'.length := by rw [I'.len]; exact hN
      have hid : i < δ.length := by have := h'.len; simp at this; omega
      have hi : (δ.set i (.own d))[i]? = some (.own d) := List.getElem?_set_self hid
      rcases isCont_ex (hf δ d hd) with ⟨ds, rfl⟩ | ⟨kvs, rfl⟩
      · obtain ⟨a, xs, h1, h2, h3⟩ := h'.ownL hi
        obtain ⟨o, I2⟩ := Inv.frz I' h2 (by trivial)
        have hk := frz_kp (o := o) h2 (by trivial)
        have hd := h'.dropS hi hk (fun b hb => upd_ne hb) fun fq hq => by
          rw [h1] at hq
          obtain ⟨a', e', e2, _⟩ := hq
          cases e'
          rw [e2]; simp
        have hx := hd.setDat (i := i) (v := .ref a) hil (.lst upd_same (h3.kp hk))
        rw [List.set_set, List.set_set] at hx
        have hsame : σ'.set i (some (.ref a)) = σ' := set_same h1
        rw [hsame] at hx
        exact ⟨σ', _, I2, q σ' _ hx (k'.trans hk) l'⟩
      · obtain ⟨a, xs, h1, h2, h3, h4⟩ := h'.ownD hi
        obtain ⟨o, I2⟩ := Inv.frz I' h2 (by trivial)
        have hk := frz_kp (o := o) h2 (by trivial)
        have hd := h'.dropS hi hk (fun b hb => upd_ne hb) fun fq hq => by
          rw [h1] at hq
          obtain ⟨a', e', e2, _⟩ := hq
          cases e'
          rw [e2]; simp
        have hx := hd.setDat (i := i) (v := .ref a) hil (.dic upd_same (h3.kp hk) h4)
        rw [List.set_set, List.set_set] at hx
        have hsame : σ'.set i (some (.ref a)) = σ' := set_same h1
        rw [hsame] at hx
        exact ⟨σ', _, I2, q σ' _ hx (k'.trans hk) l'⟩
    | brk => obtain ⟨_, _, _, z⟩ := q1; exact z.elim
    | cont => obtain ⟨_, _, _, z⟩ := q1; exact z.elim
    | ret v => obtain ⟨_, _, _, _, _, z⟩ := q1; exact z.elim

/-! ### targets in statements -/
/-- what a target does, with the own things kept -/
def GdS (K : PySem.W.Frag) (w : World) (M : Addr → Prop) (H0 : Hp) (n : Nat) (g : TG) (ft : Ftg) : Prop :=
  ∀ (v : V) (d : D) (σ : St) (H : Hp) (δ : Dl) (Q : St → Hp → Prop), σ.length = n → SS K w M H0 σ H δ → Da K w H v d → ∀ δ', ft d δ = some δ' → (∀ σ' : St, σ'.length = n → SS K w M H0 σ' H δ' → Q σ' H) → g v σ H Q
theorem gs_name {K : PySem.W.Frag} {w : World} {n j : Nat} (hj : j < n) : GdS K w M H0 n (gName j) (ftN j) := by
  intro v d σ H δ Q hl p h δ' hf q
  cases hf
  exact q (σ.set j (some v)) (by simpa using hl) (p.setDat (by rw [hl]; exact hj) h)
theorem gs_names {K : PySem.W.Frag} {w : World} {n : Nat} : ∀ (js : List Nat) (xs : List V) (ds : List D) (σ : St) (H : Hp) (δ : Dl) (Q : St → Hp → Prop), (∀ j ∈ js, j < n) → σ.length = n → SS K w M H0 σ H δ → DaL K w H xs ds → ds.length = js.length →
    (∀ σ' : St, σ'.length = n → SS K w M H0 σ' H (setAll δ js ds) → Q σ' H) → gNames js xs σ H Q
  | [], _, _, σ, H, δ, Q, _, hl, p, .nil, _, q => ⟨rfl, q σ hl p⟩
  | [], _, _, σ, H, δ, Q, _, hl, p, .cons _ _, e, q => by simp at e
  | j :: js, _, _, σ, H, δ, Q, _, hl, p, .nil, e, q => by simp at e
  | j :: js, _, _, σ, H, δ, Q, hj, hl, p, .cons h a, e, q => by
    refine ⟨_, _, rfl, ?_⟩
    exact gs_names js _ _ (σ.set j (some _)) H (δ.set j (.dat _)) Q (fun i hi => hj i (List.mem_cons_of_mem _ hi)) (by simpa using hl) (p.setDat (by rw [hl]; exact hj j List.mem_cons_self) h) a (by simpa using e) q
theorem gs_tup {K : PySem.W.Frag} {w : World} {n : Nat} {js : List Nat} (hj : ∀ j ∈ js, j < n) : GdS K w M H0 n (gTup K js.length (gNames js)) (ftT js) := by
  intro v d σ H δ Q hl p h δ' hf q
  unfold ftT at hf
  split at hf
  · split at hf
    · rename_i hlen
      cases hf
      obtain ⟨a, xs, rfl, h1, h2⟩ := (Sn.da h).tup_
      exact ⟨a, xs, rfl, h1, by rw [h2.length]; exact hlen, gs_names js xs _ σ H δ Q hj hl p h2 hlen q⟩
    · cases hf
  · cases hf
/-- a, b = e, e a tuple -/
def gTupS (js : List Nat) (f : Fe) : Fs := fun δ => So.of δ (fun d => match ftT js d δ with | some δ' => .nx δ' | none => .bad) (f δ)
theorem es_tup {tg : Expr} {js : List Nat} {f : Fe} (hj : ∀ j ∈ js, j < X.N.length) (he : PE X e (tE (plainRl X.K X.w) Ew .da f)) (hg : PG X tg (gTup X.K js.length (gNames js))) (hs : swapsWithSole [tg] e pos.line X.env = pure false := by rfl) (hw : swappedStores [tg] e X.env = pure none := by rfl)
    (h1 : (assignEach [tg] X.env).map (·.2) = [assign tg X.env] := by rfl) : PS X (.Assign [tg] e pos) (tS M H0 Ew X.K X.w (gTupS js f)) := by
  refine PS.impI (ps_asg he hg hs hw h1) fun pins s D σ H I ⟨δ, h, q⟩ => ?_
  refine tE_st h q fun d v H1 h1 e1 r1 q1 => ?_
  cases hf : ftT js d δ with
  | none => rw [hf] at q1; exact q1.elim
  | some δ' =>
    rw [hf] at q1
    exact gs_tup (M := M) (H0 := H0) hj v d σ H1 δ _ I.len h1 r1 δ' hf fun σ' l' h' => q1 σ' H1 h' (Kp.refl _) (by rw [l', I.len])
/-- a, b = x, y: names of the def that no block captures -/
def gPar (i j : Nat) (f g : Fe) : Fs := fun δ => So.of δ (fun d => So.of δ (fun d' => .nx ((δ.set i (.dat d)).set j (.dat d'))) (g δ)) (f δ)
theorem es_par {i j : Nat} {x y : Str} {f g : Fe} {px py pt : Pos} {kt k2 : Nat} {pt2 : Pos} (hc : X.calm = true) (hN : X.N.Nodup) (hi : X.N[i]? = some x) (hj : X.N[j]? = some y) (hij : i ≠ j)
    (hx : X.env.scope.names.lookup x = some .local) (hy : X.env.scope.names.lookup y = some .local) (ha : PE X a (tE (plainRl X.K X.w) Ew .da f)) (hb : PE X b (tE (plainRl X.K X.w) Ew .da g))
    (hw : swappedStores [.Tuple [.Name x px, .Name y py] kt pt] (.Tuple [a, b] k2 pt2) X.env = pure (some [x, y]))
    (hs : swapsWithSole [.Tuple [.Name x px, .Name y py] kt pt] (.Tuple [a, b] k2 pt2) pos.line X.env = pure false := by rfl)
    (hs1 : starEach [a, b] X.env = (false, eval a X.env) :: starEach [b] X.env := by rfl) (hs2 : starEach [b] X.env = (false, eval b X.env) :: starEach [] X.env := by rfl) :
    PS X (.Assign [.Tuple [.Name x px, .Name y py] kt pt] (.Tuple [a, b] k2 pt2) pos) (tS M H0 Ew X.K X.w (gPar i j f g)) := by
  refine PS.impI (ps_par hc hN hi hj hij hx hy (pa_cons ha (pa_cons hb pa_nil hs2) hs1) hw hs) fun pins s D σ H I ⟨δ, h, q⟩ => ?_
  refine tE_st h q fun d v H1 h1 e1 r1 q1 => ?_
  refine tE_st h1 q1 fun d2 v2 H2 h2 e2 r2 q2 => ?_
  have l1 : i < σ.length := by rw [I.len]; exact (List.getElem?_eq_some_iff.mp hi).1
  have l2 : j < σ.length := by rw [I.len]; exact (List.getElem?_eq_some_iff.mp hj).1
  exact ⟨v, v2, rfl, q2 _ H2 ((h2.setDat l1 (Da.ex e2 r1)).setDat (by simpa using l2) r2) (Kp.refl _) (by simp)⟩

/-! ### loops -/
def forS (ft : Ftg) (gb : Fs) : List D → Dl → So
  | [], δ => .nx δ
  | d :: ds, δ => match ft d δ with
    | none => .bad
    | some δ1 => match gb δ1 with
      | .nx δ2 => forS ft gb ds δ2
      | .ct δ2 => forS ft gb ds δ2
      | .bk δ2 => .nx δ2
      | r => r
def gFor (fi : Fa) (ft : Ftg) (gb : Fs) : Fs := fun δ => So.of δ (fun ds => forS ft gb ds δ) (fi δ)
theorem es_for {tg iter : Expr} {body : List Stmt} {fi : Fa} {g : TG} {ft : Ftg} {gb : Fs} (hp : PassesOwn (model X.prog X.w) X.A X.env X.xe) (hc : X.calm = true) (hi : PI X tg iter (tI (plainRl X.K X.w) Ew fi)) (hgd : GdS X.K X.w M H0 X.N.length g ft) (hg : PG X tg g)
    (hb : PSs X body (tS M H0 Ew X.K X.w gb)) (hs : ∀ x, foldedSetIterable iter X.env x = pure x := by intro _; rfl) : PS X (.For tg iter body [] pos) (tS M H0 Ew X.K X.w (gFor fi ft gb)) := by
  refine PS.impI (ps_for hp hc hi hg hb hs) fun pins s D σ H I ⟨δ, h, q⟩ => ?_
  have hl := I.len
  refine ⟨δ, h.toP, ?_⟩
  unfold gFor at q
  cases hf : fi δ with
  | bad => rw [hf] at q; exact q
  | exc c => rw [hf] at q; exact fun H' e' => q σ H' (h.ex e')
  | ok ds =>
    rw [hf] at q
    intro J H1 e1 st
    refine ⟨fun i m σ' H' => m = ds.length - i ∧ i ≤ ds.length ∧ σ'.length = σ.length ∧ Kp H1 H' ∧ ∃ δ', SS X.K X.w M H0 σ' H' δ' ∧ Sk M H0 Ew X.K X.w H1 σ.length D (forS ft gb (ds.drop i) δ'), ⟨ds.length, rfl, Nat.zero_le _, rfl, Kp.refl _, δ, h.ex e1, by rw [List.drop_zero]; exact Sk.mono e1.kp q⟩, ?_⟩
    rintro i m σ' H' ⟨rfl, hi', hl', hk, δ', h', q'⟩
    by_cases hlt : i < ds.length
    · have hd : ds[i]? = some ds[i] := List.getElem?_eq_getElem _
      refine .inr ⟨st.go i H' _ hk hd, fun σ2 H2 => σ2.length = σ.length ∧ Kp H1 H2 ∧ ∃ δ2, SS X.K X.w M H0 σ2 H2 δ2 ∧ Sk M H0 Ew X.K X.w H1 σ.length D (forS ft gb (ds.drop (i + 1)) δ2), fun σ2 H2 h2 => ⟨ds.length - (i + 1), by omega, rfl, by omega, h2⟩, fun x H2 y => ?_⟩
      obtain ⟨e2, hx⟩ := st.yld i H' _ x H2 hk hd y
      rw [List.drop_eq_getElem_cons hlt, forS] at q'
      cases hft : ft ds[i] δ' with
      | none => rw [hft] at q'; exact q'.elim
      | some δ1 =>
        rw [hft] at q'
        dsimp only at q'
        refine hgd x _ σ' H2 δ' _ (by rw [hl', hl]) (h'.ex e2) hx δ1 hft fun σ3 l3 h3 => ⟨δ1, h3, ?_⟩
        have hk2 : Kp H1 H2 := hk.trans e2.kp
        have l3' : σ3.length = σ.length := by rw [l3, hl]
        cases hgb : gb δ1 with
        | bad => rw [hgb] at q'; exact q'.elim
        | exc c δ2 => rw [hgb] at q'; exact q'
        | rt d δ2 => rw [hgb] at q'; exact q'
        | nx δ2 => rw [hgb] at q'; exact fun σ4 H4 h4 k4 l4 => ⟨by rw [l4, l3'], hk2.trans k4, δ2, h4, q'⟩
        | ct δ2 => rw [hgb] at q'; exact fun σ4 H4 h4 k4 l4 => ⟨by rw [l4, l3'], hk2.trans k4, δ2, h4, q'⟩
        | bk δ2 => rw [hgb] at q'; exact fun σ4 H4 h4 k4 l4 => q' σ4 H4 h4 (hk2.trans k4) (by rw [l4, l3'])
    · have : i = ds.length := by omega
      subst this
      rw [List.drop_length] at q'
      exact .inl ⟨st.stop _ H' hk rfl, q' σ' H' h' hk hl'⟩
/-- a while, with as many turns as fuel says at most -/
def whileS (c : Ft) (gb : Fs) : Nat → Dl → So
  | 0, _ => .bad
  | n + 1, δ => So.of δ (fun b => if b = true then (match gb δ with
      | .nx δ2 => whileS c gb n δ2
      | .ct δ2 => whileS c gb n δ2
      | .bk δ2 => .nx δ2
      | r => r) else .nx δ) (c δ)
def gWhile (fuel : Dl → Nat) (c : Ft) (gb : Fs) : Fs := fun δ => whileS c gb (fuel δ) δ
theorem es_while {body : List Stmt} {f : Ft} {gb : Fs} (fuel : Dl → Nat) (hp : PassesOwn (model X.prog X.w) X.A X.env X.xe) (hc : PT X c (tT (plainRl X.K X.w) Ew f)) (hb : PSs X body (tS M H0 Ew X.K X.w gb)) : PS X (.While c body [] pos) (tS M H0 Ew X.K X.w (gWhile fuel f gb)) := by
  refine PS.impI (ps_while hp hc hb) fun pins s D σ H I ⟨δ, h, q⟩ => ?_
  refine ⟨fun m σ' H' => σ'.length = σ.length ∧ ∃ δ', SS X.K X.w M H0 σ' H' δ' ∧ Sk M H0 Ew X.K X.w H' σ.length D (whileS f gb m δ'), ⟨fuel δ, rfl, δ, h, q⟩, ?_⟩
  rintro m σ' H' ⟨hl', δ', h', q'⟩
  cases m with
  | zero => exact q'.elim
  | succ m =>
    rw [whileS] at q'
    refine tT_st h' q' fun b H1 h1 e1 q1 => ?_
    cases b with
    | false => exact q1 σ' H1 h1 (Kp.refl _) hl'
    | true =>
      refine ⟨fun σ2 H2 => σ2.length = σ.length ∧ ∃ δ2, SS X.K X.w M H0 σ2 H2 δ2 ∧ Sk M H0 Ew X.K X.w H2 σ.length D (whileS f gb m δ2), fun σ2 H2 h2 => ⟨m, Nat.lt_succ_self m, h2⟩, δ', h1, ?_⟩
      simp only [if_true] at q1
      cases hgb : gb δ' with
      | bad => rw [hgb] at q1; exact q1.elim
      | exc c δ2 => rw [hgb] at q1; exact q1
      | rt d δ2 => rw [hgb] at q1; exact q1
      | nx δ2 => rw [hgb] at q1; exact fun σ4 H4 h4 k4 l4 => ⟨by rw [l4, hl'], δ2, h4, Sk.mono k4 q1⟩
      | ct δ2 => rw [hgb] at q1; exact fun σ4 H4 h4 k4 l4 => ⟨by rw [l4, hl'], δ2, h4, Sk.mono k4 q1⟩
      | bk δ2 => rw [hgb] at q1; exact fun σ4 H4 h4 k4 l4 => q1 σ4 H4 h4 k4 (by rw [l4, hl'])

/-! ### lists of one's own -/
def gApp (i : Nat) (f : Fe) : Fs := fun δ => match δ[i]? with
  | some (.own (.list ds)) => So.of δ (fun d => if fits (ds.length + 1) = true then .nx (δ.set i (.own (.list (ds ++ [d])))) else .bad) (f δ)
  | _ => .bad
theorem es_app {i : Nat} {x : Str} {f : Fe} {p1 p2 p3 : Pos} (hN : X.N[i]? = some x) (hv : Vis X.env.scope x) (he : PE X e (tE (plainRl X.K X.w) Ew .da f)) (hd : (x == ("__debug__" : Str)) = false := by decide) (hcd : (x == ("__classdict__" : Str)) = false := by decide)
    (hbase : attributeBase (.Name x p1) "append" X.env (eval (.Name x p1) X.env) = eval (.Name x p1) X.env := by rfl)
    (hfew : ((backTo p3 (starEach [e] X.env)).all (fun x => !x.1) && (backToKw p3 (keywordEach [] X.env)).all (fun x => x.1.isSome) && decide ([e].length + ([] : List Keyword).length + (if ([] : List Keyword).isEmpty then 0 else 1) < 30)) = true := by rfl)
    (hline : (p2.endLine == p3.line) = true := by rfl) (hs1 : starEach [e] X.env = (false, eval e X.env) :: starEach [] X.env := by rfl) (hplain : (backTo p3 (starEach [] X.env)).any (·.1) = false := by rfl)
    (hs : swapsWith (.Call (.Attribute (.Name x p1) "append" p2) [e] [] p3) none pos.line X.env = pure false := by rfl) :
    PS X (.Expr (.Call (.Attribute (.Name x p1) "append" p2) [e] [] p3) pos) (tS M H0 Ew X.K X.w (gApp i f)) := by
  refine PS.imp (ps_expr (pe_bm PySem.F.plainAttrs_list PySem.F.slot_list_append PySem.F.type_list_append mt_append (pe_var hN hv hd hcd) (pa_cons he pa_nil hs1) hbase hfew hline hs1 hplain) hs) fun D σ H ⟨δ, h, q⟩ => ?_
  unfold gApp at q
  split at q
  · rename_i ds hi
    obtain ⟨a, xs, h1, h2, h3⟩ := h.ownL hi
    refine ⟨_, h1, .inl ⟨rfl, xs, .inl (.inl h2)⟩, ?_⟩
    refine tE_st h q fun d v H1 hh e1 r1 q1 => ?_
    split at q1
    · rename_i hf
      have hlen := h3.length
      have hz := fits_le hf
      have h2' := e1 _ _ h2
      refine ⟨a, xs, v, rfl, rfl, h2', by omega, ?_⟩
      have mu : Mut (H1 a) := by rw [h2']; trivial
      refine q1 σ _ (hh.write hi (by rw [h1]; rfl) mu fun k => .inl ⟨_, _, rfl, rfl, ((h3.ex e1).append (.cons r1 .nil)).kp k⟩) (Kp.mt (.inl mu)) rfl
    · exact q1.elim
  · exact q.elim
/-- x = xs.pop() -/
def gPop (j i : Nat) : Fs := fun δ => match δ[i]? with
  | some (.own (.list ds)) => (match ds.getLast? with
    | some d => .nx ((δ.set i (.own (.list ds.dropLast))).set j (.dat d))
    | none => .bad)
  | _ => .bad
theorem DaL.dropLast {K : PySem.W.Frag} {w : World} {H : Hp} {vs : List V} {ds : List D} (h : DaL K w H vs ds) : DaL K w H vs.dropLast ds.dropLast := by
  rw [List.dropLast_eq_take, List.dropLast_eq_take, h.length]
  exact h.take _
theorem es_pop {i j : Nat} {x y : Str} {p1 p2 p3 p4 : Pos} (hNd : X.N.Nodup) (hN : X.N[i]? = some x) (hv : Vis X.env.scope x) (hj : X.N[j]? = some y) (hy : Loc X.env.scope y) (hd : (x == ("__debug__" : Str)) = false := by decide) (hcd : (x == ("__classdict__" : Str)) = false := by decide)
    (hbase : attributeBase (.Name x p1) "pop" X.env (eval (.Name x p1) X.env) = eval (.Name x p1) X.env := by rfl) (hline : (p2.endLine == p3.line) = true := by rfl)
    (hs : swapsWith (.Call (.Attribute (.Name x p1) "pop" p2) [] [] p3) (some (.Name y p4)) pos.line X.env = pure false := by rfl) (hf : X.fn y = true ∨ X.env.scope.names.lookup y = some .local := by first | exact .inl rfl | exact .inr rfl | assumption) :
    PS X (.Assign [.Name y p4] (.Call (.Attribute (.Name x p1) "pop" p2) [] [] p3) pos) (tS M H0 Ew X.K X.w (gPop j i)) := by
  refine PS.impI (ps_set hNd hj hy (pe_bm0 PySem.F.plainAttrs_list PySem.F.slot_list_pop PySem.F.type_list_pop mt_pop (pe_var hN hv hd hcd) hbase hline) hs hf) fun pins s D σ H I ⟨δ, h, q⟩ => ?_
  unfold gPop at q
  split at q
  · rename_i ds hi
    split at q
    · rename_i d hlast
      obtain ⟨a, xs, h1, h2, h3⟩ := h.ownL hi
      have hlen := h3.length
      rw [List.getLast?_eq_getElem?] at hlast
      obtain ⟨v, hv1, hv2⟩ := h3.get hlast
      refine ⟨_, h1, .inl ⟨rfl, xs, .inl (.inl h2)⟩, a, xs, v, rfl, rfl, h2, by rw [hlen]; exact hv1, ?_⟩
      have mu : Mut (H a) := by rw [h2]; trivial
      have k : Kp H (upd H a (.lst xs.dropLast)) := Kp.mt (.inl mu)
      have hw := h.write (d' := .list ds.dropLast) (o' := .lst xs.dropLast) hi (by rw [h1]; rfl) mu fun k => .inl ⟨_, _, rfl, rfl, h3.dropLast.kp k⟩
      have hjl : j < σ.length := by rw [I.len]; exact (List.getElem?_eq_some_iff.mp hj).1
      exact q _ _ (hw.setDat hjl (hv2.kp k)) k (by simp)
    · exact q.elim
  · exact q.elim
/-- xs.extend(ys), ys a new list -/
def gExt (i : Nat) (f : Fe) : Fs := fun δ => match δ[i]? with
  | some (.own (.list ds)) => So.of δ (fun d => match d with
    | .list es => if fits (ds.length + es.length) = true then .nx (δ.set i (.own (.list (ds ++ es)))) else .bad
    | _ => .bad) (f δ)
  | _ => .bad
theorem es_ext {i : Nat} {x : Str} {f : Fe} {p1 p2 p3 : Pos} (hN : X.N[i]? = some x) (hv : Vis X.env.scope x) (he : PE X e (tE (plainRl X.K X.w) Ew .nw f)) (hd : (x == ("__debug__" : Str)) = false := by decide) (hcd : (x == ("__classdict__" : Str)) = false := by decide)
    (hbase : attributeBase (.Name x p1) "extend" X.env (eval (.Name x p1) X.env) = eval (.Name x p1) X.env := by rfl)
    (hfew : ((backTo p3 (starEach [e] X.env)).all (fun x => !x.1) && (backToKw p3 (keywordEach [] X.env)).all (fun x => x.1.isSome) && decide ([e].length + ([] : List Keyword).length + (if ([] : List Keyword).isEmpty then 0 else 1) < 30)) = true := by rfl)
    (hline : (p2.endLine == p3.line) = true := by rfl) (hs1 : starEach [e] X.env = (false, eval e X.env) :: starEach [] X.env := by rfl) (hplain : (backTo p3 (starEach [] X.env)).any (·.1) = false := by rfl)
    (hs : swapsWith (.Call (.Attribute (.Name x p1) "extend" p2) [e] [] p3) none pos.line X.env = pure false := by rfl) :
    PS X (.Expr (.Call (.Attribute (.Name x p1) "extend" p2) [e] [] p3) pos) (tS M H0 Ew X.K X.w (gExt i f)) := by
  refine PS.imp (ps_expr (pe_bm PySem.F.plainAttrs_list PySem.F.slot_list_extend PySem.F.type_list_extend mt_extend (pe_var hN hv hd hcd) (pa_cons he pa_nil hs1) hbase hfew hline hs1 hplain) hs) fun D σ H ⟨δ, h, q⟩ => ?_
  unfold gExt at q
  split at q
  · rename_i ds hi
    obtain ⟨a, xs, h1, h2, h3⟩ := h.ownL hi
    refine ⟨_, h1, .inl ⟨rfl, xs, .inl (.inl h2)⟩, ?_⟩
    refine tE_st h q fun d v H1 hh e1 r1 q1 => ?_
    split at q1
    · split at q1
      · rename_i hf
        cases r1 with
        | lst hn hb hda =>
          have hlen := h3.length
          have hlen2 := hda.length
          have hz := fits_le hf
          have h2' := e1 _ _ h2
          refine ⟨a, _, xs, _, rfl, rfl, h2', hb, by omega, ?_⟩
          have mu : Mut (H1 a) := by rw [h2']; trivial
          exact q1 σ _ (hh.write hi (by rw [h1]; rfl) mu fun k => .inl ⟨_, _, rfl, rfl, ((h3.ex e1).append hda).kp k⟩) (Kp.mt (.inl mu)) rfl
      · exact q1.elim
    · exact q1.elim
  · exact q.elim
/-- xs[i] = e -/
def gSetI (i : Nat) (fi f : Fe) : Fs := fun δ => So.of δ (fun d => match δ[i]? with
  | some (.own (.list ds)) => So.of δ (fun k => match intOf k with
    | some n => (match ixN ds.length n with
      | some j => .nx (δ.set i (.own (.list (ds.set j d))))
      | none => .bad)
    | none => .bad) (fi δ)
  | _ => .bad) (f δ)
theorem es_setI {i : Nat} {x : Str} {f fi : Fe} {ix : Expr} {p1 p2 : Pos} (hN : X.N[i]? = some x) (hv : Vis X.env.scope x) (he : PE X e (tE (plainRl X.K X.w) Ew .da f)) (hix : PE X ix (tE (plainRl X.K X.w) Ew .sn fi)) (hd : (x == ("__debug__" : Str)) = false := by decide) (hcd : (x == ("__classdict__" : Str)) = false := by decide)
    (ha : ∀ v, assign (.Subscript (.Name x p1) ix p2) X.env v = (do
      let ov ← holding [v] (eval (.Name x p1) X.env)
      let iv ← holding [v, ov] (eval ix X.env)
      standAt p2
      holding [v, ov, iv] (setItem ov iv v)
      release [v, ov, iv] []) := by intro _; rfl)
    (hs : swapsWithSole [.Subscript (.Name x p1) ix p2] e pos.line X.env = pure false := by rfl) (hw : swappedStores [.Subscript (.Name x p1) ix p2] e X.env = pure none := by rfl)
    (h1 : (assignEach [.Subscript (.Name x p1) ix p2] X.env).map (·.2) = [assign (.Subscript (.Name x p1) ix p2) X.env] := by rfl) :
    PS X (.Assign [.Subscript (.Name x p1) ix p2] e pos) (tS M H0 Ew X.K X.w (gSetI i fi f)) := by
  refine PS.imp (ps_asg he (pg_sub (pe_var hN hv hd hcd) hix set_list ha) hs hw h1) fun D σ H ⟨δ, h, q⟩ => ?_
  refine tE_st h q fun d v H1 hh e1 r1 q1 => ?_
  split at q1
  · rename_i ds hi
    obtain ⟨a, xs, g1, g2, g3⟩ := hh.ownL hi
    refine ⟨_, g1, ?_⟩
    refine tE_st hh q1 fun k kv H2 h2 e2 r2 q2 => ?_
    split at q2
    · rename_i n hn
      split at q2
      · rename_i j hj
        cases intOf_some hn
        cases Sn.int_ r2
        have g2' := e2 _ _ g2
        refine ⟨a, xs, n, j, rfl, rfl, g2', by rw [g3.length]; exact hj, ?_⟩
        have mu : Mut (H2 a) := by rw [g2']; trivial
        exact q2 σ _ (h2.write hi (by rw [g1]; rfl) mu fun k => .inl ⟨_, _, rfl, rfl, ((g3.ex e2).set (Da.ex e2 r1) j).kp k⟩) (Kp.mt (.inl mu)) rfl
      · exact q2.elim
    · exact q2.elim
  · exact q1.elim
end
end Hm
/-! Hm17: dicts -/
namespace Hm
open PySem L2 Ob PySem.SeqAt

section
variable {X : Cx} {pins : List (Addr × Obj)} {σ : St} {H : Hp} {s : Shared}
/-- an entry by its key -/
theorem dic_hit (I : Inv X pins σ H s) {es : List DictEntry} {kvs : List (D × D)} {ks : List NestedKey} {n : NestedKey} {j : Nat} {e : DictEntry} (h2 : DaE X.K X.w H es kvs) (h3 : (kvs.map fun p => keyOf p.1).Nodup) (e1 : (kvs.map fun p => keyOf p.1) = ks.map some)
    (hj : ks[j]? = some n) (he : es[j]? = some e) : ∃ z v, dLook kvs n = some z ∧ RelV v e.val ∧ Da X.K X.w H v z := by
  obtain ⟨dk, z, zv, g1, g2, g3⟩ := h2.get he
  exact ⟨z, zv, dLook_of_get h3 g1 (ks_at e1 hj g1), g2, g3⟩
theorem dic_miss {t : Type} {kvs : List (D × t)} {ks : List NestedKey} {n : NestedKey} (e1 : (kvs.map fun p => keyOf p.1) = ks.map some) (h : n ∉ ks) : dLook kvs n = none :=
  dLook_none (by rw [← ks_mem e1]; exact decide_eq_false h)
end

/-! ### {}, d.get(k, x), d[k] = v -/
def dicOf : D → Option (List (D × D))
  | .dict kvs => some kvs
  | _ => none
theorem dicOf_some {d : D} {kvs : List (D × D)} (h : dicOf d = some kvs) : d = .dict kvs := by
  cases d <;> first | (cases h; rfl) | cases h
def fGet (fo fk fx : Fe) : Fe := fun δ => fo δ >>= fun d => Rs.of (dicOf d) >>= fun kvs => fk δ >>= fun k => Rs.of (keyOf k) >>= fun n => fx δ >>= fun x => .ok ((dLook kvs n).getD x)
section
variable {X : Cx} {R : Rl X.K X.w} {Ew : Ews} {o e f : Expr} {fo fe ff : Fe} {pos apos cpos : Pos}
theorem ed_dnew : PE X (.Dict [] [] pos) (tE R Ew .nw (fC (.dict []))) := by
  refine ⟨fun pins s σ H Q I ⟨δ, p, q⟩ => ?_⟩
  have hn : H s.heap.objs.size = none := I.hok.fresh (Nat.le_refl _)
  refine wpAny_Dict_empty ⟨.ref s.heap.objs.size, _, I.laid (a := s.heap.objs.size) (o := dicO s.heap.objs.size []) (t' := s.toks) (fun _ _ q => Heap.get?_push_of_some _ q) (Nat.le_refl _) (dicO_ok ?_), rfl, q _ _ (Ex.nw hn) (.dic hn upd_same .nil List.nodup_nil)⟩
  exact ⟨beq_eq_false_iff_ne.mpr (Ne.symm (Nat.ne_of_lt I.big)), Nat.zero_le _, _, 0, Heap.get?_push_size _ rfl, ⟨rfl, rfl, rfl⟩, rfl⟩
theorem ed_get (hu : X.A.units + 64 < cLine) (ho : PE X o (tE R Ew .sn fo)) (he : PE X e (tE R Ew .sn fe)) (hf : PE X f (tE R Ew .da ff)) (m : M2 X o "get" apos e f cpos) : PE X (.Call (.Attribute o "get" apos) [e, f] [] cpos) (tE R Ew .da (fGet fo fe ff)) := by
  refine ⟨fun pins s σ H Q I ⟨δ, p, q⟩ => ?_⟩
  refine wpAny_Call_method m.base m.few m.line PySem.F.plainAttrs_dict PySem.F.slot_dict_get PySem.F.type_dict_get
    (thn (ho.run pins s σ H (fun v H1 => ∃ kvs, R.P σ H1 δ ∧ Ex H H1 ∧ Sn X.K X.w H1 v (.dict kvs) ∧ Rk (fe δ >>= fun k => Rs.of (keyOf k) >>= fun n => ff δ >>= fun x => .ok ((dLook kvs n).getD x)) (EW Ew δ H) fun d => ∀ v H', Ex H H' → Da X.K X.w H' v d → Q v H') I (tE_then p (Ex.rf H) q fun d v H1 p1 e1 _ r1 q1 => ?_)) fun u s1 ⟨x, H1, I1, rx, kvs, p1, e1, hd, q1⟩ => ?_)
  · obtain ⟨kvs, hk, q2⟩ := (Rk.bind q1).of
    cases dicOf_some hk
    exact ⟨kvs, p1, e1, r1, q2⟩
  · obtain ⟨a, es, rfl, h1, h2, h3⟩ := hd.dic_
    cases rx
    have hD := rd_dic I1 h1
    refine ⟨hD.typeIs, fun b eb => by cases eb; exact hD.noDict, ?_⟩
    rw [m.trees]
    refine Calls.callWith_builtin rfl (Calls.evalArgs_plain (Calls.spliced_cons (thn (he.run pins s1 σ H1 (fun v H2 => ∃ d n, keyOf d = some n ∧ R.P σ H2 δ ∧ Ex H1 H2 ∧ Sn X.K X.w H2 v d ∧ Rk (ff δ >>= fun x => .ok ((dLook kvs n).getD x)) (EW Ew δ H) fun d => ∀ v H', Ex H H' → Da X.K X.w H' v d → Q v H') I1 (tE_then p1 e1 q1 fun d v H2 p2 e2 _ r2 q2 => ?_)) fun iv s2 ⟨y, H2, I2, ry, d, n, hn, p2, e2, hdk, q2⟩ =>
      Calls.spliced_cons (thn (hf.run pins s2 σ H2 (fun v H3 => ∃ z, Ex H2 H3 ∧ Da X.K X.w H3 v z ∧ ∀ v H', Ex H H' → Da X.K X.w H' v ((dLook kvs n).getD z) → Q v H') I2 (tE_then p2 (e1.tr e2) q2 fun d v H3 p3 e3 _ r3 q3 => ⟨d, e3, r3, q3⟩)) fun fv s3 ⟨z, H3, I3, rz, zd, e3, hz, q3⟩ => Calls.spliced_nil ?_))))
    · obtain ⟨n, hn, q3⟩ := (Rk.bind q2).of
      exact ⟨d, n, hn, p2, e2, r2, q3⟩
    · have h1' : Rd H3 a (dicO a es) := by
        rcases h1 with h | ⟨ob, h⟩
        · exact .inl (e3 _ _ (e2 _ _ h))
        · exact .inr ⟨ob, e3 _ _ (e2 _ _ h)⟩
      have h2' := h2.ex (e2.tr e3)
      obtain ⟨ks, ek, hek⟩ := h2'.ek I3
      obtain ⟨k1, k2⟩ := keyOf_some hn
      have hall := (e1.tr e2).tr e3
      refine dget2 (show X.A.units + 1 + 8 < cLine by omega) ((hdk.ex e3).nested I3 ry k1) k2 (rd_dic I3 h1') hek (ks_nodup ek h3) (fun hno t => ?_) fun j en t hj he' => ?_
      · rw [dic_miss ek hno] at q3
        exact ⟨z, H3, I3.tok t, rz, q3 z H3 hall hz⟩
      · obtain ⟨w1, w2, g1, g2, g3⟩ := dic_hit I3 h2' h3 ek hj he'
        rw [g1] at q3
        exact ⟨w2, H3, I3.tok t, g2, q3 w2 H3 hall g3⟩
end

/-! ### stores -/
theorem DaE.put {K : PySem.W.Frag} {w : World} {H : Hp} {v : V} {z : Value} {d : D} (r : RelV v z) (h : Da K w H v d) : ∀ {es : List DictEntry} {kvs : List (D × D)} {j : Nat} {e : DictEntry} {p : D × D}, DaE K w H es kvs → es[j]? = some e → kvs[j]? = some p → DaE K w H (es.set j { e with val := z }) (kvs.set j (p.1, d))
  | _, _, _, _, _, .nil, he, _ => by simp at he
  | _, _, 0, _, _, .cons r1 h1 r2 h2 n a, he, hp => by
    simp only [List.getElem?_cons_zero, Option.some.injEq] at he hp
    subst he hp
    exact .cons r1 h1 r h n a
  | _, _, j + 1, _, _, .cons r1 h1 r2 h2 n a, he, hp => by
    simp only [List.getElem?_cons_succ] at he hp
    exact .cons r1 h1 r2 h2 n (DaE.put r h a he hp)
theorem dPut_new {t : Type} {kvs : List (D × t)} {k : D} {v : t} {n : NestedKey} (hn : keyOf k = some n) (h : dHas kvs n = false) : dPut kvs k v = kvs ++ [(k, v)] := by
  unfold dPut
  unfold dHas at h
  rw [hn, h]
  rfl
theorem dPut_old {t : Type} {kvs : List (D × t)} {k : D} {v : t} {n : NestedKey} {j : Nat} {p : D × t} (hn : keyOf k = some n) (hnd : (kvs.map fun p => keyOf p.1).Nodup) (hj : kvs[j]? = some p) (hp : keyOf p.1 = some n) : dPut kvs k v = kvs.set j (p.1, v) := by
  unfold dPut
  have hany : (kvs.any fun q => decide (keyOf q.1 = keyOf k)) = true := List.any_eq_true.mpr ⟨p, List.mem_of_getElem? hj, by rw [hn, hp]; simp⟩
  rw [if_pos hany]
  refine List.ext_getElem? fun i => ?_
  rw [List.getElem?_map]
  by_cases hi : j = i
  · subst hi
    rw [hj, List.getElem?_set_self (List.getElem?_eq_some_iff.mp hj).1]
    simp [hn, hp]
  · rw [List.getElem?_set_ne hi]
    cases hq : kvs[i]? with
    | none => rfl
    | some q =>
      have : ¬ keyOf q.1 = keyOf k := fun e => hi (nth_nodup hnd hj hq (by rw [hp, e, hn]))
      simp [this]
theorem dPut_nodup {t : Type} {kvs : List (D × t)} {k : D} {v : t} {n : NestedKey} (hn : keyOf k = some n) (hnd : (kvs.map fun p => keyOf p.1).Nodup) : ((dPut kvs k v).map fun p => keyOf p.1).Nodup := by
  cases h : dHas kvs n with
  | false =>
    rw [dPut_new hn h, List.map_append, List.nodup_append]
    refine ⟨hnd, by simp, ?_⟩
    intro x hx y hy
    simp at hy
    subst hy
    obtain ⟨p, hp, rfl⟩ := List.mem_map.mp hx
    intro e
    have := List.any_eq_false.mp h p hp
    simp at this
    exact this (by rw [e, hn])
  | true =>
    obtain ⟨p, hp, hk⟩ := List.any_eq_true.mp h
    obtain ⟨j, hj⟩ := List.mem_iff_getElem?.mp hp
    rw [dPut_old hn hnd hj (of_decide_eq_true hk)]
    have : (kvs.set j (p.1, v)).map (fun p => keyOf p.1) = kvs.map fun p => keyOf p.1 := by
      rw [List.map_set]
      refine set_same ?_
      rw [List.getElem?_map, hj]; rfl
    rw [this]
    exact hnd
section
variable {X : Cx} {M : Addr → Prop} {H0 : Hp} {Ew : Ews} {e ix : Expr} {pos : Pos}
/-- a dict of ours, written -/
theorem Inv.dwrite {pins : List (Addr × Obj)} {σ : St} {H : Hp} {s : Shared} {a : Addr} {es es' : List DictEntry} {h' : Heap} {t : Nat} (I : Inv X pins σ H s) (h : H a = some (dicO a es)) (hd : DicAt a es' h') (sb : Heap.SameBut a s.heap h') : Inv X pins σ (upd H a (dicO a es')) { s with heap := h', toks := t } := by
  refine I.write (x := a) (e := a) (by rw [h]; trivial) (.inl rfl) (fun b u hb e => (sb.2 b hb).trans e) ?_ (dicO_ok hd)
  obtain ⟨_, _, o, _, ho, _⟩ := hd
  exact ⟨o, ho⟩
def gDput (i : Nat) (fk f : Fe) : Fs := fun δ => So.of δ (fun d => match δ[i]? with
  | some (.own (.dict kvs)) => So.of δ (fun k => match keyOf k with
    | some _ => if fits (kvs.length + 1) = true then .nx (δ.set i (.own (.dict (dPut kvs k d)))) else .bad
    | none => .bad) (fk δ)
  | _ => .bad) (f δ)
theorem es_dput {i : Nat} {x : Str} {f fk : Fe} {p1 p2 : Pos} (hu : X.A.units + 64 < cLine) (hN : X.N[i]? = some x) (hv : Vis X.env.scope x) (he : PE X e (tE (plainRl X.K X.w) Ew .da f)) (hk : PE X ix (tE (plainRl X.K X.w) Ew .da fk)) (hd : (x == ("__debug__" : Str)) = false := by decide) (hcd : (x == ("__classdict__" : Str)) = false := by decide)
    (hs : swapsWith e (some (.Subscript (.Name x p1) ix p2)) pos.line X.env = pure false := by rfl) : PS X (.Assign [.Subscript (.Name x p1) ix p2] e pos) (tS M H0 Ew X.K X.w (gDput i fk f)) := by
  refine ⟨fun pins s σ H D I ⟨δ, h, q⟩ => ?_⟩
  refine wpAny_Assign_Subscript (thn (he.run pins s σ H (fun v H1 => ∃ d, SS X.K X.w M H0 σ H1 δ ∧ Ex H H1 ∧ Da X.K X.w H1 v d ∧ Sk M H0 Ew X.K X.w H1 σ.length D (match δ[i]? with
      | some (.own (.dict kvs)) => So.of δ (fun k => match keyOf k with
        | some _ => if fits (kvs.length + 1) = true then .nx (δ.set i (.own (.dict (dPut kvs k d)))) else .bad
        | none => .bad) (fk δ)
      | _ => .bad)) I (tE_st h q fun d v H1 h1 e1 r1 q1 => ⟨d, h1, e1, r1, q1⟩)) fun r s1 ⟨v, H1, I1, rv, d, h1, e1, hda, q1⟩ => ?_) hs
  split at q1
  · rename_i kvs hi
    obtain ⟨a, es, g1, g2, g3, g4⟩ := h1.ownD hi
    refine thn ((pe_var hN hv hd hcd).run pins s1 σ H1 (fun v H' => v = .ref a ∧ H' = H1) I1 ⟨_, g1, rfl, rfl⟩) fun u s2 ⟨x, H2, I2, rx, ex, eH⟩ => ?_
    subst ex eH
    cases rx
    refine thn (hk.run pins s2 σ _ (fun v H3 => ∃ k, SS X.K X.w M H0 σ H3 δ ∧ Ex H2 H3 ∧ Da X.K X.w H3 v k ∧ Sk M H0 Ew X.K X.w H3 σ.length D (match keyOf k with
        | some _ => if fits (kvs.length + 1) = true then .nx (δ.set i (.own (.dict (dPut kvs k d)))) else .bad
        | none => .bad)) I2 (tE_st h1 q1 fun d v H1 h1 e1 r1 q1 => ⟨d, h1, e1, r1, q1⟩)) fun iv s3 ⟨y, H3, I3, ry, k, h3, e3, hk3, q3⟩ => ?_
    split at q3
    · rename_i n hn
      split at q3
      · rename_i hf
        have g2' := e3 _ _ g2
        have g3' := g3.ex e3
        obtain ⟨ks, ek, hek⟩ := g3'.ek I3
        obtain ⟨k1, k2⟩ := keyOf_some hn
        have mu : Mut (H3 a) := by rw [g2']; trivial
        have hlen := g3.length
        have hz := fits_le hf
        have rv' : ∀ o', Kp H3 (upd H3 a o') := fun o' => Kp.mt (.inl mu)
        refine dsetItem (show X.A.units + 1 + 8 < cLine by omega) ((Sn.da hk3).nested I3 ry k1) k2 (rd_dic I3 (.inl g2')) hek (ks_nodup ek g4) (by omega) (fun hno h' t hd' sb => ?_) fun j en hj hje h' t hd' sb => ?_
        · have hno' : dHas kvs n = false := by rw [← ks_mem ek]; exact decide_eq_false hno
          refine ⟨σ, _, Inv.dwrite I3 g2' hd' sb, q3 σ _ (h3.write hi (by rw [g1]; rfl) mu fun kk => .inr ⟨_, _, rfl, rfl, ?_, dPut_nodup hn g4⟩) (rv' _) rfl⟩
          rw [dPut_new hn hno']
          exact (g3'.append (.cons ry hk3 rv (hda.ex e3) hn .nil)).kp kk
        · obtain ⟨dk, z, zv, w1, w2, w3⟩ := g3'.get hje
          refine ⟨σ, _, Inv.dwrite I3 g2' hd' sb, q3 σ _ (h3.write hi (by rw [g1]; rfl) mu fun kk => .inr ⟨_, _, rfl, rfl, ?_, dPut_nodup hn g4⟩) (rv' _) rfl⟩
          rw [dPut_old hn g4 w1 (ks_at ek hj w1)]
          exact (DaE.put rv (hda.ex e3) g3' hje w1).kp kk
      · exact q3.elim
    · exact q3.elim
  · exact q1.elim
end
end Hm
/-! Hm18: a dict of lists of one's own -/
namespace Hm
open PySem L2 Ob PySem.SeqAt

section
variable {X : Cx} {pins : List (Addr × Obj)} {σ : St} {H : Hp} {s : Shared}
theorem DaM.ek (I : Inv X pins σ H s) : ∀ {es : List DictEntry} {bs : List Addr} {kvs : List (D × List D)}, DaM X.K X.w H es bs kvs → ∃ ks : List NestedKey, (kvs.map fun p => keyOf p.1) = ks.map some ∧ EK X.w s.heap es ks
  | _, _, _, .nil => ⟨[], rfl, rfl, fun j e k h => by simp at h⟩
  | _, _, _, .cons (n := n) r1 h1 h2 h3 hn a => by
    obtain ⟨ks, e1, l1, h4⟩ := DaM.ek I a
    obtain ⟨q1, q2⟩ := keyOf_some hn
    refine ⟨n :: ks, by simp [e1, hn], by simp [l1], fun j e k he hk => ?_⟩
    cases j with
    | zero =>
      simp only [List.getElem?_cons_zero, Option.some.injEq] at he hk
      subst he hk
      exact ⟨rfl, (Sn.da h1).nested I r1 q1, q2⟩
    | succ j =>
      simp only [List.getElem?_cons_succ] at he hk
      exact h4 j e k he hk
theorem DaM.get {K : PySem.W.Frag} {w : World} : ∀ {es : List DictEntry} {bs : List Addr} {kvs : List (D × List D)} {j : Nat} {e : DictEntry}, DaM K w H es bs kvs → es[j]? = some e → ∃ d ds b xs, kvs[j]? = some (d, ds) ∧ bs[j]? = some b ∧ e.val = .ref b ∧ H b = some (.lst xs) ∧ DaL K w H xs ds
  | _, _, _, _, _, .nil, h => by simp at h
  | _, _, _, 0, _, .cons r1 h1 h2 h3 hn a, h => by
    simp only [List.getElem?_cons_zero, Option.some.injEq] at h
    subst h
    exact ⟨_, _, _, _, rfl, rfl, rfl, h2, h3⟩
  | _, _, _, j + 1, _, .cons r1 h1 h2 h3 hn a, h => by
    simp only [List.getElem?_cons_succ] at h
    obtain ⟨d, ds, b, xs, q1, q2, q3, q4, q5⟩ := DaM.get (j := j) a h
    exact ⟨d, ds, b, xs, by simpa using q1, by simpa using q2, q3, q4, q5⟩
theorem DaM.length {K : PySem.W.Frag} {w : World} : ∀ {es : List DictEntry} {bs : List Addr} {kvs : List (D × List D)}, DaM K w H es bs kvs → es.length = kvs.length ∧ bs.length = kvs.length
  | _, _, _, .nil => ⟨rfl, rfl⟩
  | _, _, _, .cons r1 h1 h2 h3 hn a => by have := DaM.length a; simp [this.1, this.2]
theorem DaM.append {K : PySem.W.Frag} {w : World} : ∀ {es fs : List DictEntry} {bs cs : List Addr} {kvs lws : List (D × List D)}, DaM K w H es bs kvs → DaM K w H fs cs lws → DaM K w H (es ++ fs) (bs ++ cs) (kvs ++ lws)
  | _, _, _, _, _, _, .nil, b => b
  | _, _, _, _, _, _, .cons r1 h1 h2 h3 hn a, b => .cons r1 h1 h2 h3 hn (DaM.append a b)
/-- the list at one key grows -/
theorem DaM.grow {K : PySem.W.Frag} {w : World} {b : Addr} {xs : List V} {v : V} {dd : D} (hb : H b = some (.lst xs)) (hv : Da K w H v dd) : ∀ {es : List DictEntry} {bs : List Addr} {kvs : List (D × List D)} {j : Nat} {d : D} {ds : List D}, DaM K w H es bs kvs → bs.Nodup → bs[j]? = some b → kvs[j]? = some (d, ds) →
    DaM K w (upd H b (.lst (xs ++ [v]))) es bs (kvs.set j (d, ds ++ [dd]))
  | _, _, _, _, _, _, .nil, _, h, _ => by simp at h
  | _, _, _, 0, _, _, .cons (b := c) (xs := ys) r1 h1 h2 h3 hn a, nd, h, hk => by
    simp only [List.getElem?_cons_zero, Option.some.injEq] at h hk
    subst h
    rw [hb] at h2
    cases h2
    cases hk
    have k : Kp H (upd H c (.lst (xs ++ [v]))) := Kp.mt (.inl (by rw [hb]; trivial))
    rw [List.nodup_cons] at nd
    exact .cons r1 (h1.kp k) upd_same ((h3.append (.cons hv .nil)).kp k) hn (a.keep k fun x hx => upd_ne fun e => nd.1 (by rw [← e]; exact hx))
  | _, _, _, j + 1, _, _, .cons (b := c) r1 h1 h2 h3 hn a, nd, h, hk => by
    simp only [List.getElem?_cons_succ] at h hk
    rw [List.nodup_cons] at nd
    have k : Kp H (upd H b (.lst (xs ++ [v]))) := Kp.mt (.inl (by rw [hb]; trivial))
    have hne : c ≠ b := fun e => nd.1 (by rw [e]; exact List.mem_of_getElem? h)
    exact .cons r1 (h1.kp k) (by rw [upd_ne hne]; exact h2) (h3.kp k) hn (DaM.grow hb hv a nd.2 h hk)
end

theorem ks_nodup' {t : Type} {kvs : List (D × t)} {ks : List NestedKey} (e : (kvs.map fun p => keyOf p.1) = ks.map some) (h : (kvs.map fun p => keyOf p.1).Nodup) : ks.Nodup := by
  rw [e] at h
  exact List.Pairwise.imp (fun {a b} q r => q (by rw [r])) (List.pairwise_map.mp h)
/-! ### reading -/
def fGet2 (i : Nat) (fk : Fe) : Fe := fun δ => match δ[i]? with
  | some (.own2 kvs) => fk δ >>= fun k => Rs.of (keyOf k) >>= fun n => .ok (.list ((dLook kvs n).getD []))
  | _ => .bad
section
variable {X : Cx} {R : Rl X.K X.w} {Ew : Ews} {e : Expr} {fk : Fe} {pos apos cpos p1 p2 : Pos}
theorem ed_get2 {i : Nat} {x : Str} (hu : X.A.units + 64 < cLine) (hN : X.N[i]? = some x) (hv : Vis X.env.scope x) (he : PE X e (tE R Ew .sn fk)) (m : M2 X (.Name x p1) "get" apos e (.List [] p2) cpos) (hd : (x == ("__debug__" : Str)) = false := by decide) (hcd : (x == ("__classdict__" : Str)) = false := by decide) :
    PE X (.Call (.Attribute (.Name x p1) "get" apos) [e, .List [] p2] [] cpos) (tE R Ew .sn (fGet2 i fk)) := by
  refine ⟨fun pins s σ H Q I ⟨δ, p, q⟩ => ?_⟩
  unfold fGet2 at q
  split at q
  · rename_i kvs hi
    have hil : i < σ.length := by rw [I.len]; exact (List.getElem?_eq_some_iff.mp hN).1
    have hsl := R.get p hil hi
    cases hx : σ[i]? with
    | none => rw [hx] at hsl; exact hsl.elim
    | some ov =>
      rw [hx] at hsl
      cases ov with
      | none => exact hsl.elim
      | some vv =>
        obtain ⟨a, es, bs, rfl, h1, h2, h3⟩ := hsl
        refine wpAny_Call_method m.base m.few m.line PySem.F.plainAttrs_dict PySem.F.slot_dict_get PySem.F.type_dict_get (thn ((pe_var hN hv hd hcd).run pins s σ H (fun v H' => v = .ref a ∧ H' = H) I ⟨_, hx, rfl, rfl⟩) fun u s1 ⟨y, H1, I1, ry, ey, eH⟩ => ?_)
        subst ey eH
        cases ry
        have hD := rd_dic I1 (.inl h1)
        refine ⟨hD.typeIs, fun b eb => by cases eb; exact hD.noDict, ?_⟩
        rw [m.trees]
        refine Calls.callWith_builtin rfl (Calls.evalArgs_plain (Calls.spliced_cons (thn (he.run pins s1 σ H1 (fun v H2 => ∃ d n, keyOf d = some n ∧ Ex H1 H2 ∧ Sn X.K X.w H2 v d ∧ ∀ v H', Ex H1 H' → Sn X.K X.w H' v (.list ((dLook kvs n).getD [])) → Q v H') I1 (tE_then p (Ex.rf _) q fun d v H2 p2 e2 _ r2 q2 => ?_)) fun iv s2 ⟨y, H2, I2, ry, d, n, hn, e2, hdk, q2⟩ =>
          Calls.spliced_cons (thn ((pe_lst (pos := p2) pa_nil).run pins s2 σ H2 (fun v H3 => ∃ l, v = .ref l ∧ H2 l = none ∧ H3 = upd H2 l (.lst [])) I2 ⟨Nat.zero_le _, fun l hl => ⟨l, rfl, hl, rfl⟩⟩) fun fv s3 ⟨z, H3, I3, rz, l, ez, hl, e3⟩ => Calls.spliced_nil ?_))))
        · obtain ⟨n, hn, q3⟩ := (Rk.bind q2).of
          exact ⟨d, n, hn, e2, r2, q3⟩
        · subst ez e3
          have e23 : Ex H2 (upd H2 l (.lst [])) := Ex.nw hl
          have h2' := h2.ex (e2.tr e23)
          obtain ⟨ks, ek, hek⟩ := h2'.ek I3
          obtain ⟨k1, k2⟩ := keyOf_some hn
          refine dget2 (show X.A.units + 1 + 8 < cLine by omega) ((hdk.ex e23).nested I3 ry k1) k2 (rd_dic I3 (.inl (e23 _ _ (e2 _ _ h1)))) hek (ks_nodup' ek h3) (fun hno t => ?_) fun j en t hj he' => ?_
          · rw [dic_miss ek hno] at q2
            exact ⟨.ref l, _, I3.tok t, rz, q2 _ _ (e2.tr e23) (.lst upd_same .nil)⟩
          · obtain ⟨d', ds, b, xs, g1, g2, g3, g4, g5⟩ := h2'.get he'
            rw [dLook_of_get h3 g1 (ks_at ek hj g1)] at q2
            exact ⟨.ref b, _, I3.tok t, g3, q2 _ _ (e2.tr e23) (.lst g4 g5)⟩
  · exact q.elim
end

/-! ### writing -/
def gOwn2 (i : Nat) : Fs := fun δ => .nx (δ.set i (.own2 []))
/-- the dict with at least an empty list at k -/
def ens (kvs : List (D × List D)) (k : D) (n : NestedKey) : List (D × List D) := if dHas kvs n = true then kvs else kvs ++ [(k, [])]
/-- d at the end of the list at k -/
def addTo (kvs : List (D × List D)) (n : NestedKey) (d : D) : List (D × List D) := kvs.map fun p => if keyOf p.1 = some n then (p.1, p.2 ++ [d]) else p
def gSda (i : Nat) (fk fe : Fe) : Fs := fun δ => match δ[i]? with
  | some (.own2 kvs) => (match fk δ with
    | .ok k => (match keyOf k with
      | some n => if fits (kvs.length + 1) = true then (match fe (δ.set i (.own2 (ens kvs k n))) with
        | .ok d => if (ens kvs k n).all (fun p => fits (p.2.length + 1)) = true then .nx (δ.set i (.own2 (addTo (ens kvs k n) n d))) else .bad
        | _ => .bad) else .bad
      | none => .bad)
    | _ => .bad)
  | _ => .bad
section
variable {K : PySem.W.Frag} {w : World} {M : Addr → Prop} {H0 H H' : Hp} {σ : St} {δ : Dl}
theorem SS.own2_ {i : Nat} {kvs : List (D × List D)} (h : SS K w M H0 σ H δ) (hi : δ[i]? = some (.own2 kvs)) : ∃ a es bs, σ[i]? = some (some (.ref a)) ∧ H a = some (dicO a es) ∧ DaM K w H es bs kvs ∧ (kvs.map fun p => keyOf p.1).Nodup ∧ (a :: bs).Nodup ∧
    ∀ H' kvs' bs', Kp H H' → (∀ b o, b ∉ a :: bs → H b = some o → H' b = some o) → slS K w M H0 H' (some (.ref a)) (.own2 kvs') (a :: bs') → (a :: bs').Nodup → (∀ b ∈ bs', b ∈ bs ∨ H b = none) → SS K w M H0 σ H' (δ.set i (.own2 kvs')) := by
  obtain ⟨hl, kb, kp, fp, h1, h2, h3, h4, h5⟩ := h
  have hsi := h1 i _ hi
  cases hx : σ[i]? with
  | none => rw [hx] at hsi; exact hsi.elim
  | some ov =>
    rw [hx] at hsi
    cases ov with
    | none => exact hsi.elim
    | some v =>
      obtain ⟨a, es, bs, rfl, e, g1, g2, g3⟩ := hsi
      refine ⟨a, es, bs, rfl, g1, g2, g3, e ▸ h3 i, fun H' kvs' bs' k hb hs hnd hnew => ?_⟩
      have hil : i < δ.length := (List.getElem?_eq_some_iff.mp hi).1
      refine ⟨by simpa using hl, fun b o n q => ?_, kp.trans k, fun j => if j = i then a :: bs' else fp j, fun j t ht => ?_, fun j l b hjl hb1 hb2 => ?_, fun j => ?_, fun j b hb1 => ?_, fun j hj => ?_⟩
      · refine hb b o (fun hm => ?_) (kb b o n q)
        rcases h4 i b (e ▸ hm) with z | z
        · rw [z] at q; cases q
        · exact n z
      · by_cases hj : i = j
        · subst hj
          rw [List.getElem?_set_self hil] at ht
          cases ht
          rw [hx]
          simpa using hs
        · rw [List.getElem?_set_ne hj] at ht
          simp only [Ne.symm hj, if_false]
          refine (h1 j t ht).keep k fun b hb1 => ?_
          obtain ⟨o, ho⟩ := (h1 j t ht).mem b hb1
          rw [ho]
          exact hb b o (fun hm => h2 j i b (Ne.symm hj) hb1 (e ▸ hm)) ho
      · have key : ∀ j, j ≠ i → b ∈ a :: bs' → b ∉ fp j := fun j hj hm hf => by
          have hold : b ∈ a :: bs ∨ H b = none := by
            rcases List.mem_cons.mp hm with rfl | hm
            · exact .inl List.mem_cons_self
            · exact (hnew b hm).imp (List.mem_cons_of_mem _) id
          rcases hold with hm | hn
          · exact h2 j i b hj hf (e ▸ hm)
          · exact slot_lt h1 h5 hn j hf
        by_cases hj : j = i <;> by_cases hk : l = i <;> simp only [hj, hk, if_true, if_false] at hb1 hb2
        · exact hjl (hj.trans hk.symm)
        · exact key l hk hb1 hb2
        · exact key j hj hb2 hb1
        · exact h2 j l b hjl hb1 hb2
      · by_cases hj : j = i <;> simp only [hj, if_true, if_false]
        · exact hnd
        · exact h3 j
      · by_cases hj : j = i <;> simp only [hj, if_true, if_false] at hb1
        · have old : ∀ b, b ∈ a :: bs → H0 b = none ∨ M b := fun b hb => h4 i b (e ▸ hb)
          rcases List.mem_cons.mp hb1 with rfl | hm
          · exact old _ List.mem_cons_self
          · rcases hnew b hm with hm | hn
            · exact old _ (List.mem_cons_of_mem _ hm)
            · cases q : H0 b with
              | none => exact .inl rfl
              | some o =>
                by_cases hM : M b
                · exact .inr hM
                · have := kb b o hM q
                  rw [hn] at this; cases this
        · exact h4 j b hb1
      · have hj' : ¬ j = i := by
          have : δ.length ≤ j := by simpa using hj
          omega
        simp only [hj', if_false]
        exact h5 j (by simpa using hj)
end
theorem ens_nodup {kvs : List (D × List D)} {k : D} {n : NestedKey} (hn : keyOf k = some n) (h : (kvs.map fun p => keyOf p.1).Nodup) : ((ens kvs k n).map fun p => keyOf p.1).Nodup := by
  unfold ens
  split
  · exact h
  · rename_i hc
    have hc' : dHas kvs n = false := by simpa using hc
    have := dPut_nodup (v := ([] : List D)) hn h
    rw [dPut_new hn hc'] at this
    exact this
theorem addTo_keys (kvs : List (D × List D)) (n : NestedKey) (d : D) : ((addTo kvs n d).map fun p => keyOf p.1) = kvs.map fun p => keyOf p.1 := by
  unfold addTo
  rw [List.map_map]
  refine List.map_congr_left fun p _ => ?_
  simp only [Function.comp_apply]
  split <;> rfl
theorem addTo_set {kvs : List (D × List D)} {n : NestedKey} {d k : D} {ds : List D} {j : Nat} (hnd : (kvs.map fun p => keyOf p.1).Nodup) (hj : kvs[j]? = some (k, ds)) (hk : keyOf k = some n) : addTo kvs n d = kvs.set j (k, ds ++ [d]) := by
  refine List.ext_getElem? fun i => ?_
  unfold addTo
  rw [List.getElem?_map]
  by_cases hi : j = i
  · subst hi
    rw [hj, List.getElem?_set_self (List.getElem?_eq_some_iff.mp hj).1]
    simp [hk]
  · rw [List.getElem?_set_ne hi]
    cases hq : kvs[i]? with
    | none => rfl
    | some q =>
      have : ¬ keyOf q.1 = some n := fun e => hi (nth_nodup hnd hj hq (by rw [hk, e]))
      simp [this]
section
variable {X : Cx} {M : Addr → Prop} {H0 : Hp} {Ew : Ews} {e ix : Expr} {pos : Pos}
theorem es_own2 {i : Nat} {x : Str} {p1 p2 : Pos} (hN : X.N.Nodup) (hi : X.N[i]? = some x) (hx : Loc X.env.scope x) (hs : swapsWith (.Dict [] [] p2) (some (.Name x p1)) pos.line X.env = pure false := by rfl) (hf : X.fn x = true ∨ X.env.scope.names.lookup x = some .local := by first | exact .inl rfl | exact .inr rfl | assumption) :
    PS X (.Assign [.Name x p1] (.Dict [] [] p2) pos) (tS M H0 Ew X.K X.w (gOwn2 i)) := by
  refine PS.impI (ps_set hN hi hx (ed_dnew (R := plainRl X.K X.w) (Ew := Ew)) hs hf) fun pins s D σ H I ⟨δ, h, q⟩ => ?_
  have hil : i < σ.length := by rw [I.len]; exact (List.getElem?_eq_some_iff.mp hi).1
  refine ⟨δ, h.toP, fun v H1 e1 r1 => ?_⟩
  have hn := h.setNew hil e1 r1 (.inr ⟨_, rfl⟩)
  refine q _ H1 ?_ e1.kp (by simp)
  obtain ⟨hl, kb, kp, fp, h1, h2, h3, h4, h5⟩ := hn
  refine ⟨by simpa using hl, kb, kp, fp, fun j t ht => ?_, h2, h3, h4, fun j hj => h5 j (by simpa using hj)⟩
  have hid : i < δ.length := by have := h.len; omega
  by_cases hj : i = j
  · subst hj
    rw [List.getElem?_set_self hid] at ht
    cases ht
    have := h1 i _ (List.getElem?_set_self hid)
    rw [List.getElem?_set_self hil] at this ⊢
    obtain ⟨a, rfl, e2, h | h⟩ := this
    · obtain ⟨_, _, e, _⟩ := h; cases e
    · obtain ⟨es, kvs, e, g1, g2, g3⟩ := h
      cases e
      cases g2
      exact ⟨a, [], [], rfl, e2, g1, .nil, List.nodup_nil⟩
  · rw [List.getElem?_set_ne hj] at ht
    exact h1 j t (by rw [List.getElem?_set_ne hj]; exact ht)
/-- d.setdefault(k, []): the list, with what an append to it does -/
def tSd (K : PySem.W.Frag) (w : World) (M : Addr → Prop) (H0 : Hp) (i : Nat) (fk : Fe) : TE := fun σ H Q => ∃ δ kvs k n, SS K w M H0 σ H δ ∧ δ[i]? = some (.own2 kvs) ∧ fk δ = .ok k ∧ keyOf k = some n ∧ fits (kvs.length + 1) = true ∧
  ∀ b xs H1, SS K w M H0 σ H1 (δ.set i (.own2 (ens kvs k n))) → Kp H H1 → H1 b = some (.lst xs) → (∃ p ∈ ens kvs k n, p.2.length = xs.length) →
    (∀ H4 v d, Ex H1 H4 → Da K w H4 v d → SS K w M H0 σ (upd H4 b (.lst (xs ++ [v]))) (δ.set i (.own2 (addTo (ens kvs k n) n d)))) → Q (.ref b) H1
theorem pe_sd {i : Nat} {x : Str} {fk : Fe} {p1 p2 p3 p4 : Pos} (hu : X.A.units + 64 < cLine) (hN : X.N[i]? = some x) (hv : Vis X.env.scope x) (hk : PE X ix (tE (plainRl X.K X.w) Ew .da fk)) (m : M2 X (.Name x p1) "setdefault" p2 ix (.List [] p3) p4) (hd : (x == ("__debug__" : Str)) = false := by decide) (hcd : (x == ("__classdict__" : Str)) = false := by decide) :
    PE X (.Call (.Attribute (.Name x p1) "setdefault" p2) [ix, .List [] p3] [] p4) (tSd X.K X.w M H0 i fk) := by
  refine ⟨fun pins s σ H Q I ⟨δ, kvs, k, n, h, hi, hfk, hn, hf, q⟩ => ?_⟩
  obtain ⟨a0, es0, bs0, hx, h10, _⟩ := h.own2_ hi
  refine wpAny_Call_method m.base m.few m.line PySem.F.plainAttrs_dict PySem.F.slot_dict_setdefault PySem.F.type_dict_setdefault (thn ((pe_var hN hv hd hcd).run pins s σ H (fun v H' => v = .ref a0 ∧ H' = H) I ⟨_, hx, rfl, rfl⟩) fun u s1 ⟨y, H1, I1, ry, ey, eH⟩ => ?_)
  subst ey eH
  cases ry
  have hD := rd_dic I1 (.inl h10)
  refine ⟨hD.typeIs, fun b eb => by cases eb; exact hD.noDict, ?_⟩
  rw [m.trees]
  refine Calls.callWith_builtin rfl (Calls.evalArgs_plain (Calls.spliced_cons (thn (hk.run pins s1 σ H1 (fun v H2 => Ex H1 H2 ∧ Da X.K X.w H2 v k) I1 ⟨δ, h.toP, Rk.ok hfk fun v H' e' r => ⟨e', r⟩⟩) fun iv s2 ⟨y, H2, I2, ry, e2, hdk⟩ =>
    Calls.spliced_cons (thn ((pe_lst (pos := p3) pa_nil).run pins s2 σ H2 (fun v H3 => ∃ l, v = .ref l ∧ H2 l = none ∧ H3 = upd H2 l (.lst [])) I2 ⟨Nat.zero_le _, fun l hl => ⟨l, rfl, hl, rfl⟩⟩) fun fv s3 ⟨z, H3, I3, rz, l, ez, hl, e3⟩ => Calls.spliced_nil ?_))))
  subst ez e3
  cases rz
  have e23 : Ex H2 (upd H2 l (.lst [])) := Ex.nw hl
  have h2s := h.ex e2
  obtain ⟨a, es, bs, hx', h1, h2, hnd, hnd2, wr⟩ := h2s.own2_ hi
  rw [hx] at hx'
  cases hx'
  obtain ⟨ks, ek, hek⟩ := (h2.ex e23).ek I3
  obtain ⟨k1, k2⟩ := keyOf_some hn
  have hlen := h2.length
  have hz := fits_le hf
  have hda : Da X.K X.w (upd H2 l (.lst [])) y k := hdk.ex e23
  have hla : l ≠ a0 := fun e => by
    subst e
    rw [hl] at h1
    cases h1
  have hlb : l ∉ bs := fun hm => by
    obtain ⟨o, ho⟩ := h2.mem l hm
    rw [hl] at ho; cases ho
  have h1' := e23 _ _ h1
  have hab : a0 ∉ bs := (List.nodup_cons.mp hnd2).1
  refine dsetdef (show X.A.units + 1 + 8 < cLine by omega) ((Sn.da hda).nested I3 ry k1) k2 (rd_dic I3 (.inl h1')) hek (ks_nodup' ek hnd) (by omega) (fun hno h' t hd' sb => ?_) fun j en t hj hje => ?_
  · -- a new key
    have hno' : dHas kvs n = false := by rw [← ks_mem ek]; exact decide_eq_false hno
    have eens : ens kvs k n = kvs ++ [(k, [])] := by unfold ens; rw [hno']; rfl
    have I4 := Inv.dwrite (t := t) I3 h1' hd' sb
    have mu : Mut ((upd H2 l (.lst [])) a0) := by rw [h1']; trivial
    generalize hes' : es ++ [(⟨n.hash X.w, iv, .ref l⟩ : DictEntry)] = es' at *
    have k34 : Kp (upd H2 l (.lst [])) (upd (upd H2 l (.lst [])) a0 (dicO a0 es')) := Kp.mt (.inl mu)
    have kall : Kp H2 (upd (upd H2 l (.lst [])) a0 (dicO a0 es')) := e23.kp.trans k34
    have hl4 : (upd (upd H2 l (.lst [])) a0 (dicO a0 es')) l = some (.lst []) := by rw [upd_ne hla, upd_same]
    have ha4 : (upd (upd H2 l (.lst [])) a0 (dicO a0 es')) a0 = some (dicO a0 es') := upd_same
    have hkeep : ∀ b o, b ∉ a0 :: bs → H2 b = some o → (upd (upd H2 l (.lst [])) a0 (dicO a0 es')) b = some o := fun b o hb e => by
      rw [upd_ne fun z => hb (by rw [z]; exact List.mem_cons_self)]
      exact e23 b o e
    have hM4 : DaM X.K X.w (upd (upd H2 l (.lst [])) a0 (dicO a0 es')) es' (bs ++ [l]) (kvs ++ [(k, [])]) := by
      rw [← hes']
      refine DaM.append ((h2.ex e23).keep (by rw [hes']; exact k34) fun b hb => by rw [upd_ne fun z => hab (by rw [← z]; exact hb)]) ?_
      rw [hes']
      exact .cons ry (hda.kp k34) hl4 .nil hn .nil
    have hnd' : (a0 :: (bs ++ [l])).Nodup := by
      rw [List.nodup_cons] at hnd2 ⊢
      refine ⟨fun hm => ?_, ?_⟩
      · rcases List.mem_append.mp hm with hm | hm
        · exact hab hm
        · simp at hm; exact hla hm.symm
      · rw [List.nodup_append]
        exact ⟨hnd2.2, by simp, fun x hx y hy e => by simp at hy; subst hy; subst e; exact hlb hx⟩
    have hkn : ((kvs ++ [(k, ([] : List D))]).map fun p : D × List D => keyOf p.1).Nodup := by rw [← eens]; exact ens_nodup hn hnd
    have hbs' : ∀ b ∈ bs ++ [l], b ∈ bs ∨ H2 b = none := fun b hb => by
      rcases List.mem_append.mp hb with hb | hb
      · exact .inl hb
      · simp at hb; subst hb; exact .inr hl
    rw [eens] at q
    refine ⟨.ref l, _, I4, rfl, q l [] _ (wr _ _ _ kall hkeep ⟨a0, es', bs ++ [l], rfl, rfl, ha4, hM4, hkn⟩ hnd' hbs') (e2.kp.trans kall) hl4 ⟨(k, []), by simp, rfl⟩ fun H5 v d e5 hv5 => ?_⟩
    have hl5 := e5 _ _ hl4
    have k5 : Kp H5 (upd H5 l (.lst ([] ++ [v]))) := Kp.mt (.inl (by rw [hl5]; trivial))
    refine wr _ _ (bs ++ [l]) ((kall.trans e5.kp).trans k5) (fun b o hb e => ?_) ⟨a0, es', bs ++ [l], rfl, rfl, ?_, ?_, ?_⟩ hnd' hbs'
    · rw [upd_ne fun z => by rw [z, hl] at e; cases e]
      exact e5 _ _ (hkeep b o hb e)
    · rw [upd_ne hla.symm]; exact e5 _ _ ha4
    · rw [addTo_set (j := kvs.length) (k := k) (ds := []) hkn (by simp) hn]
      have := DaM.grow (j := kvs.length) (d := k) (ds := []) hl5 hv5 (hM4.ex e5) (List.nodup_cons.mp hnd').2 (by simp [← hlen.2]) (by simp)
      simpa using this
    · rw [addTo_keys]; exact hkn
  · -- a key that is there
    have hM3 := h2.ex e23
    obtain ⟨d', ds, b, xs, g1, g2, g3, g4, g5⟩ := hM3.get hje
    have hkd : keyOf d' = some n := ks_at ek hj g1
    have hyes : dHas kvs n = true := dLook_has (dLook_of_get hnd g1 hkd)
    have eens : ens kvs k n = kvs := by unfold ens; rw [hyes]; rfl
    rw [eens, set_same hi] at q
    have hb2 : H2 b = some (.lst xs) := by
      obtain ⟨o, ho⟩ := h2.mem b (List.mem_of_getElem? g2)
      have := e23 _ _ ho
      rw [g4] at this
      rw [ho, this]
    have hbl : b ≠ l := fun z => by rw [z, hl] at hb2; cases hb2
    have hba : b ≠ a0 := fun z => hab (by rw [← z]; exact List.mem_of_getElem? g2)
    refine ⟨.ref b, _, I3.tok t, g3, q b xs _ (h2s.ex e23) (e2.kp.trans e23.kp) g4 ⟨(d', ds), List.mem_of_getElem? g1, by rw [g5.length]⟩ fun H5 v d e5 hv5 => ?_⟩
    have hb5 := e5 _ _ g4
    have k5 : Kp H5 (upd H5 b (.lst (xs ++ [v]))) := Kp.mt (.inl (by rw [hb5]; trivial))
    rw [addTo_set hnd g1 hkd]
    refine wr _ _ bs ((e23.kp.trans e5.kp).trans k5) (fun c o hc e => ?_) ⟨a0, es, bs, rfl, rfl, ?_, ?_, ?_⟩ hnd2 (fun c hc => .inl hc)
    · rw [upd_ne fun z => hc (by rw [z]; exact List.mem_cons_of_mem _ (List.mem_of_getElem? g2))]
      exact e5 _ _ (e23 _ _ e)
    · rw [upd_ne hba.symm]; exact e5 _ _ h1'
    · exact DaM.grow hb5 hv5 (hM3.ex e5) (List.nodup_cons.mp hnd2).2 g2 g1
    · rw [← addTo_set (d := d) hnd g1 hkd, addTo_keys]; exact hnd
theorem es_sda {i : Nat} {x : Str} {fk fe : Fe} {p1 p2 p3 p4 p5 p6 : Pos} (hu : X.A.units + 64 < cLine) (hN : X.N[i]? = some x) (hv : Vis X.env.scope x) (hk : PE X ix (tE (plainRl X.K X.w) Ew .da fk)) (he : PE X e (tE (plainRl X.K X.w) Ew .da fe)) (m : M2 X (.Name x p1) "setdefault" p2 ix (.List [] p3) p4) (hd : (x == ("__debug__" : Str)) = false := by decide) (hcd : (x == ("__classdict__" : Str)) = false := by decide)
    (hbase : attributeBase (.Call (.Attribute (.Name x p1) "setdefault" p2) [ix, .List [] p3] [] p4) "append" X.env (eval (.Call (.Attribute (.Name x p1) "setdefault" p2) [ix, .List [] p3] [] p4) X.env) = eval (.Call (.Attribute (.Name x p1) "setdefault" p2) [ix, .List [] p3] [] p4) X.env := by rfl)
    (hfew : ((backTo p6 (starEach [e] X.env)).all (fun x => !x.1) && (backToKw p6 (keywordEach [] X.env)).all (fun x => x.1.isSome) && decide ([e].length + ([] : List Keyword).length + (if ([] : List Keyword).isEmpty then 0 else 1) < 30)) = true := by rfl)
    (hline : (p5.endLine == p6.line) = true := by rfl) (hs1 : starEach [e] X.env = (false, eval e X.env) :: starEach [] X.env := by rfl) (hplain : (backTo p6 (starEach [] X.env)).any (·.1) = false := by rfl)
    (hs : swapsWith (.Call (.Attribute (.Call (.Attribute (.Name x p1) "setdefault" p2) [ix, .List [] p3] [] p4) "append" p5) [e] [] p6) none pos.line X.env = pure false := by rfl) :
    PS X (.Expr (.Call (.Attribute (.Call (.Attribute (.Name x p1) "setdefault" p2) [ix, .List [] p3] [] p4) "append" p5) [e] [] p6) pos) (tS M H0 Ew X.K X.w (gSda i fk fe)) := by
  refine PS.imp (ps_expr (pe_bm PySem.F.plainAttrs_list PySem.F.slot_list_append PySem.F.type_list_append mt_append (pe_sd (M := M) (H0 := H0) hu hN hv hk m hd hcd) (pa_cons he pa_nil hs1) hbase hfew hline hs1 hplain) hs) fun D σ H ⟨δ, h, q⟩ => ?_
  unfold gSda at q
  split at q
  · rename_i kvs hi
    split at q
    · rename_i k hk
      split at q
      · rename_i n hn
        split at q
        · rename_i hf
          refine ⟨δ, kvs, k, n, h, hi, hk, hn, hf, fun b xs H1 h1 k1 hb hp wr => ⟨.inl ⟨rfl, xs, .inl (.inl hb)⟩, ?_⟩⟩
          split at q
          · rename_i d hd
            split at q
            · rename_i hall
              refine ⟨_, h1.toP, Rk.ok hd fun v H4 e4 r4 => ?_⟩
              obtain ⟨p, hp1, hp2⟩ := hp
              rw [List.all_eq_true] at hall
              have hz := fits_le (hall p hp1)
              have hb4 := e4 _ _ hb
              exact ⟨b, xs, v, rfl, rfl, hb4, by omega, q σ _ (wr H4 v d e4 r4) ((k1.trans e4.kp).trans (Kp.mt (.inl (by rw [hb4]; trivial)))) rfl⟩
            · exact q.elim
          · exact q.elim
        · exact q.elim
      · exact q.elim
    · exact q.elim
  · exact q.elim
end
end Hm
/-! Hm19: defs -/
namespace Hm
open PySem PySem.Spec PyProof.Rows L2 Ob PySem.SeqAt

/-- the slots at a def's entry -/
def stSl : List Md → List D → Dl
  | .da :: ms, d :: ds => .dat d :: stSl ms ds
  | .sn :: ms, d :: ds => .par d :: stSl ms ds
  | _, _ => []
def startD (n : Nat) (ms : List Md) (ds : List D) : Dl := stSl ms ds ++ List.replicate (n - ms.length) .no
def So.fin : So → Rs D
  | .rt d _ => .ok d
  | .nx _ => .ok .none
  | .exc c _ => .exc c
  | _ => .bad
/-- a def as a function -/
def fnD (n : Nat) (ms : List Md) (g : Fs) : List D → Rs D := fun ds => (g (startD n ms ds)).fin
/-- the promise of a def that keeps all and lets nothing out -/
def spF (K : PySem.W.Frag) (w : World) (ms : List Md) (F : List D → Rs D) : Sp := fun vs H Q _ => ∃ ds, Ags K w H ms vs ds ∧ Rk (F ds) (fun _ => False) fun d => ∀ v H', Ex H H' → Da K w H' v d → Q v H'
abbrev M0 : Addr → Prop := fun _ => False

section
variable {K : PySem.W.Frag} {w : World}
theorem Ags.stSl_len {H : Hp} : ∀ {ms : List Md} {vs : List V} {ds : List D}, Ags K w H ms vs ds → (stSl ms ds).length = ms.length
  | _, _, _, .nil => rfl
  | _, _, _, .da h a => by simp [stSl, Ags.stSl_len a]
  | _, _, _, .sn h a => by simp [stSl, Ags.stSl_len a]
theorem kb0 {H H' : Hp} (h : Kb M0 H H') : Ex H H' := fun b o e => h b o (fun z => z) e
theorem Ags.slots {H : Hp} : ∀ {ms : List Md} {vs : List V} {ds : List D}, Ags K w H ms vs ds → ∀ (i : Nat) (s : Sl), (stSl ms ds)[i]? = some s → slS K w M0 H H (((vs.map some)[i]?).join) s []
  | _, _, _, .nil, i, s, h => by simp [stSl] at h
  | _, _, _, .da h a, 0, s, e => by
    simp only [stSl, List.getElem?_cons_zero, Option.some.injEq] at e
    subst e
    exact ⟨rfl, h⟩
  | _, _, _, .sn h a, 0, s, e => by
    simp only [stSl, List.getElem?_cons_zero, Option.some.injEq] at e
    subst e
    exact ⟨rfl, fun H' kb _ => h.ex (kb0 kb)⟩
  | _, _, _, .da h a, i + 1, s, e => by
    simp only [stSl, List.getElem?_cons_succ] at e
    simpa using Ags.slots a i s e
  | _, _, _, .sn h a, i + 1, s, e => by
    simp only [stSl, List.getElem?_cons_succ] at e
    simpa using Ags.slots a i s e
theorem SS.start {H : Hp} {N : List Str} {ms : List Md} {vs : List V} {ds : List D} (h : Ags K w H ms vs ds) (hn : ms.length ≤ N.length) : SS K w M0 H (start N vs) H (startD N.length ms ds) := by
  have hl := h.length
  refine ⟨?_, fun b o _ e => e, Kp.refl H, fun _ => [], fun i s e => ?_, fun i j a _ hm => by simp at hm, fun _ => List.nodup_nil, fun i a hm => by simp at hm, fun _ _ => rfl⟩
  · unfold startD L2.start
    simp only [List.length_append, List.length_replicate, List.length_map, h.stSl_len, hl.1]
  · unfold startD at e
    unfold L2.start
    by_cases hi : i < ms.length
    · rw [List.getElem?_append_left (by rw [h.stSl_len]; exact hi)] at e
      rw [List.getElem?_append_left (by rw [List.length_map, hl.1]; exact hi)]
      exact h.slots i s e
    · rw [List.getElem?_append_right (by rw [h.stSl_len]; omega)] at e
      have := List.mem_of_getElem? e
      rw [(List.mem_replicate.mp this).2]
      cases (List.map some vs ++ List.replicate (N.length - vs.length) none)[i]?.join <;> rfl
end

section
variable {P : Program} {w : World} {K : PySem.W.Frag} {mg : Str → Option Value}
/-- all parameters are given -/
def BindsA (fd : FuncData) (ps : List Str) : Prop := ∀ (s : Shared) (us : List Value), us.length = ps.length → BindsTo s fd ⟨us, []⟩ (ps.zip us)
theorem BindsA.b {fd : FuncData} {ps : List Str} (h : BindsA fd ps) : Binds K fd ps [] := fun s us _ hl => by
  rw [List.append_nil] at hl ⊢
  exact h s us hl
/-- what is known of a def: where it stands, and its promise -/
structure Ok (P : Program) (w : World) (K : PySem.W.Frag) (mg : Str → Option Value) (x : Str) (ps : List Str) (k : Nat) (ms : List Md) (F : List D → Rs D) : Prop where
  ex : ∃ (f : Addr) (fd : FuncData), mg x = some (.ref f) ∧ PySem.W.keepIn K (.ref f) = true ∧ BindsA fd ps ∧ ∀ base : Heap, FnOk P w K mg base CX0 k f fd ps (spF K w ms F)
/-- a def of the text -/
structure Df (K : PySem.W.Frag) (mg : Str → Option Value) (x : Str) (st : Stmt) (ps : List Str) : Prop where
  ex : ∃ (f : Addr) (fd : FuncData), Fun K x x st f fd ∧ mg x = some (.ref f) ∧ BindsA fd ps
theorem Df.ok {x : Str} {st : Stmt} {N ps : List Str} {k : Nat} {ms : List Md} {g : Fs} (T : Df K mg x st ps) (S : FnScope N ps (defScope st)) (hl : ms.length = ps.length) (hn : ms.length ≤ N.length)
    (hb : ∀ (base : Heap) (f : Addr) (cdv : Value) (A : Around) (outer : List Env) (s : Shared) (H : Hp) (E : XK), Room k (A.deeper (envOfC x (defScope st) s.heap.objs.size f cdv)) →
      PSs (cxOf CX0 P w K mg base N x (defScope st) f cdv A outer s H E).nox (defBody st) (tS M0 H Ew0 K w g)) : Ok P w K mg x ps (k + 1) ms (fnD N.length ms g) := by
  obtain ⟨f, fd, F, hm, hbd⟩ := T.ex
  refine ⟨f, fd, hm, F.kp, hbd, fun base => F.ok S (fun vs H Q E ⟨ds, ha, _⟩ => by rw [← hl]; exact ha.length.1) fun cdv A outer s H vs Q E hr hsp => ?_⟩
  obtain ⟨ds, ha, hF⟩ := hsp
  refine ⟨_, hb base f cdv A outer s H E hr, startD N.length ms ds, SS.start ha hn, ?_⟩
  unfold fnD at hF
  cases e : g (startD N.length ms ds) with
  | bad => rw [e] at hF; exact hF
  | exc c δ => rw [e] at hF; exact hF.elim
  | bk δ => rw [e] at hF; exact hF.elim
  | ct δ => rw [e] at hF; exact hF.elim
  | nx δ => rw [e] at hF; exact fun σ H' h _ _ => hF .non H' (kb0 h.kb) .non
  | rt d δ => rw [e] at hF; exact fun v σ H' h hd => hF v H' (kb0 h.kb) hd
/-- level 0 of a def that calls itself -/
theorem Df.ok0 {x : Str} {st : Stmt} {ps : List Str} {k : Nat} {ms : List Md} (T : Df K mg x st ps) : Ok P w K mg x ps k ms (fun _ => .bad) := by
  obtain ⟨f, fd, F, hm, hbd⟩ := T.ex
  exact ⟨f, fd, hm, F.kp, hbd, fun base => ⟨fun vs H Q E ⟨ds, _, z⟩ => z.elim, fun A outer s H args us vs Q E _ _ _ _ ⟨ds, _, z⟩ => z.elim⟩⟩
theorem Ok.mono {x : Str} {ps : List Str} {j k : Nat} {ms : List Md} {F : List D → Rs D} (h : Ok P w K mg x ps j ms F) (hjk : j ≤ k) : Ok P w K mg x ps k ms F := by
  obtain ⟨f, fd, hm, hk, hbd, hf⟩ := h.ex
  exact ⟨f, fd, hm, hk, hbd, fun base => (hf base).mono hjk⟩
end

/-! ### calls -/
def fCallF (F : List D → Rs D) (fa : Fa) : Fe := fun δ => fa δ >>= fun ds => noX (F ds)
section
variable {X : Cx} {R : Rl X.K X.w} {Ew : Ews} {x : Str} {ps : List Str} {k : Nat} {ms : List Md} {F : List D → Rs D} {e : Expr} {es : List Expr} {p pos : Pos}
theorem ed_call {fa : Fa} (o : Ok X.prog X.w X.K X.mg x ps k ms F) (hr : Room k X.A) (hg : Gl X x) (ha : PA X (e :: es) (tA R Ew ms fa)) (hdb : (x == ("__debug__" : Str)) = false := by decide)
    (he : starEach (e :: es) X.env = (false, eval e X.env) :: starEach es X.env := by rfl) (hpl : (backTo pos (starEach es X.env)).any (·.1) = false := by rfl) :
    PE X (.Call (.Name x p) (e :: es) [] pos) (tE R Ew .da (fCallF F fa)) := by
  obtain ⟨f, fd, hm, hk, hbd, hf⟩ := o.ex
  refine PE.imp (pe_call (hf X.base) hr hg hm hk hbd.b .nil pass0 ha hdb he hpl) fun σ H Q ⟨δ, p, q⟩ => ?_
  refine tA_then p (Ex.rf H) q fun ds vs H1 p1 e1 _ ra q1 => ?_
  obtain ⟨d, hd, q2⟩ := Rk.noX q1
  exact ⟨ds, by simpa using ra, Rk.ok hd fun v H' e' hv => q2 v H' (e1.tr e') hv⟩
theorem ed_call0 (o : Ok X.prog X.w X.K X.mg x ps k [] F) (hr : Room k X.A) (hg : Gl X x) (hdb : (x == ("__debug__" : Str)) = false := by decide) :
    PE X (.Call (.Name x p) [] [] pos) (tE R Ew .da (fun _ => noX (F []))) := by
  obtain ⟨f, fd, hm, hk, hbd, hf⟩ := o.ex
  refine PE.imp (pe_call0 (hf X.base) hr hg hm hk hbd.b .nil pass0 hdb) fun σ H Q ⟨δ, p, q⟩ => ?_
  obtain ⟨d, hd, q2⟩ := Rk.noX q
  exact ⟨[], .nil, Rk.ok hd fun v H' e' hv => q2 v H' e' hv⟩
end

/-! ### from the text, to the law -/
theorem df_mk {K : PySem.W.Frag} {h : Heap} {mg : Str → Option Value} {x : Str} {st : Stmt} {ps : List Str} {f : Addr} {oc kV doc pm cdv ct : Value} {od an : Option Addr} {sl : Array (Option Value)} (X : K.In h) (G : h.Ns mainGlobals mg)
    (a : PySem.W.nsIn K mainGlobals x = some (some (.ref f))) (l : K.lookup f = some ⟨oc, od, .func (PySem.W.fnOf x x (defArgs st) (defBody st) (defScope st) .none kV doc pm an cdv ct), sl⟩) (c : PySem.W.codeIn K cdv x = true) (k : PySem.W.keepIn K (.ref f) = true)
    (b : ∀ (kV doc pm : Value) (an : Option Addr) (cdv ct : Value) (us : List Value), us.length = ps.length → bindArgs (PySem.W.fnOf x x (defArgs st) (defBody st) (defScope st) .none kV doc pm an cdv ct) ⟨us, []⟩ = pure (ps.zip us)) : Df K mg x st ps :=
  ⟨f, _, fun_mk l c k, PySem.W.mg_of X G a, fun s us hl => .of_eq (b _ _ _ _ _ _ us hl)⟩
/-- no list stands among what the top has written -/
def noList (K : PySem.W.Frag) : Bool := K.all fun p => !(p.2.cls == .type "list")
theorem noList_no {K : PySem.W.Frag} (h : noList K = true) {a : Addr} {o : Obj} (e : K.lookup a = some o) : o.cls ≠ .type "list" := fun z => by
  have hm : (a, o) ∈ K := by
    clear h z
    induction K with
    | nil => simp at e
    | cons p r ih =>
      obtain ⟨b, q⟩ := p
      rw [List.lookup_cons] at e
      by_cases hb : (a == b) = true
      · rw [hb] at e
        cases e
        rw [eq_of_beq hb]
        exact List.mem_cons_self
      · have hb' : (a == b) = false := by simpa using hb
        rw [hb'] at e
        exact List.mem_cons_of_mem _ (ih e)
  have := List.all_eq_true.mp h _ hm
  simp [z] at this
theorem daInts {K : PySem.W.Frag} {w : World} {H : Hp} : ∀ ns : List Int, DaL K w H (ns.map V.int) (ns.map PyData.int)
  | [] => .nil
  | n :: ns => .cons (.int n) (daInts ns)
theorem sn_script {K : PySem.W.Frag} {w : World} {H : Hp} {a : Addr} {ns : List Int} (hK : noList K = true) (h : SqL K H a (ns.map V.int)) : Sn K w H (.ref a) (.list (ns.map PyData.int)) := by
  rcases h with (h | ⟨o, h⟩) | ⟨o, its, n, e, hc, _⟩
  · exact .lst h (daInts ns)
  · exact .da (.lst h (daInts ns))
  · exact absurd hc (noList_no hK e)
def spLaw (K : PySem.W.Frag) : Sp := fun vs H Q _ => ∃ (a : Addr) (ns : List Int), vs = [.ref a] ∧ SqL K H a (ns.map V.int) ∧ ns.length ≤ 63 ∧ ∀ H', Q (.bl true) H'
theorem law_end {l : PySem.W.OpenLaw} {k : Nat} {q : Program} {loose : List Str} {XP : (Str → Option Value) → Heap → Prop} {YP : World → Heap → Prop} {d : DefRec} {K : Params → PySem.W.Frag} {F : List D → Rs D} (hn : l.most = some 63) (hdf : d.params.defaults = []) (hk : Room k callerA)
    (hY : ∀ (w : World) (h : Heap), YP w h → (K w.params).In h) (hF : ∀ ns : List Int, ns.length ≤ 63 → F [.list (ns.map PyData.int)] = .ok (.bool true))
    (hT : ∀ (w : World) (mg : Str → Option Value) (h : Heap), (K w.params).In h → h.Ns mainGlobals mg → noList (K w.params) = true ∧ Ok l.prog w (K w.params) mg d.name ["script"] k [.sn] F) :
    PySem.W.WalkO q loose XP YP l.row.toRowW d [] (fun f vs => PySem.call f vs) := by
  refine L2.walk_of (n := 63) (k := k) (x := "script") (CX := fun _ => CX0) (sp := fun w => spLaw (K w.params)) hn (by decide) hdf hk hY (fun w mg fa h KX G hmg => ?_) (fun _ _ a ns hl _ hS => ⟨a, ns, rfl, hS, hl, fun _ => rfl⟩) fun _ _ _ _ _ z => z
  obtain ⟨hK, ⟨f, fd, hm, _, hb, hf⟩⟩ := hT w mg h KX G
  rw [hmg] at hm
  cases hm
  refine ⟨fd, fun s u => hb s [u] rfl, fun base _ _ => (hf base).imp fun vs H Q E ⟨a, ns, ev, hS, hl, q⟩ => ?_⟩
  subst ev
  refine ⟨_, .sn (sn_script hK hS) .nil, Rk.ok (hF ns hl) fun v H' _ hv => ?_⟩
  cases hv
  exact q H'
end Hm
/-! Hm20: minus, turned about, zip, three lists at once -/
namespace Hm
open PySem PySem.Spec PyProof.Rows L2 Ob PySem.SeqAt

def fNeg (fa : Fe) : Fe := fun δ => fa δ >>= fun d => Rs.of (intOf d) >>= fun i => .ok (.int (-i))
section
variable {X : Cx} {R : Rl X.K X.w} {Ew : Ews} {e a b tg : Expr} {fa fb : Fe} {pos p1 p2 p3 : Pos}
theorem ed_neg (ha : PE X a (tE R Ew .sn fa)) : PE X (.UnaryOp .USub a pos) (tE R Ew .nw (fNeg fa)) := by
  refine PE.imp (pe_un un_neg ha) fun σ H Q ⟨δ, p, q⟩ => ?_
  refine tE_then p (Ex.rf H) q fun d v H1 p1 e1 _ r1 q1 => ?_
  obtain ⟨i, hi, q1⟩ := (Rk.bind q1).of
  cases intOf_some hi
  cases Sn.int_ r1
  exact ⟨i, rfl, q1 _ H1 e1 (.int _)⟩
end

/-! ### turned about -/
section
open HT
variable {prog : Program} {w : World} {A : Around} {E : Value → Shared → Prop} {s : Shared}
theorem sliceApplied_rev {sl : Addr} {t : Tok} {n : Nat} {Q : Int × Int × Nat → Shared → Prop} (hs : s.heap.IsSliceOf sl .none .none (.int (-1) t))
    (h : Q ((n : Int) - 1, -1, n) s) : wpAny (model prog w) A (Builtin.Slice.sliceApplied (.ref sl) (pure (n : Int))) Q E s := by
  obtain ⟨os, hos, hcs, hds⟩ := id hs
  unfold Builtin.Slice.sliceApplied Builtin.Slice.sliceFields
  refine wpAny_bind (wpAny_bind (wpAny_field hos hds (x := .none) rfl (wpAny_bind (wpAny_field hos hds (x := .none) rfl (wpAny_bind (wpAny_field hos hds (x := .int (-1) t) rfl (wpAny_pure ?_)))))))
  refine wpAny_bind (slicePart_int ?_)
  show wpAny _ _ (if ((-1 : Int) == 0) = true then _ else _) _ _ s
  rw [if_neg (by decide)]
  refine wpAny_bind (slicePart_none (wpAny_bind (slicePart_none (wpAny_bind (wpAny_pure ?_)))))
  have ea : Builtin.Slice.sliceAdjust none none (-1) (n : Int) = ((n : Int) - 1, -1) := rfl
  have ep : Builtin.Slice.slicePlaces ((n : Int) - 1) (-1) (-1) = n := by
    unfold Builtin.Slice.slicePlaces
    rw [if_neg (by decide)]
    by_cases h : (n : Int) - 1 > -1
    · rw [if_pos h]
      have : ((n : Int) - 1 - -1 - 1) / (- -1) + 1 = n := by
        rw [show (- -1 : Int) = 1 by decide, Int.ediv_one]; omega
      rw [this]; omega
    · rw [if_neg h]; omega
  show wpAny _ _ (match Builtin.Slice.sliceAdjust none none (-1) (n : Int) with | (lo, hi) => pure (lo, (-1 : Int), Builtin.Slice.slicePlaces lo hi (-1))) _ _ s
  rw [ea]
  show wpAny _ _ (pure ((n : Int) - 1, (-1 : Int), Builtin.Slice.slicePlaces ((n : Int) - 1) (-1) (-1))) _ _ s
  rw [ep]
  exact wpAny_pure h
theorem pick_rev (xs : Array Value) : ((List.range xs.size).filterMap fun (m : Nat) => xs[((xs.size : Int) - 1 + (m : Int) * -1).toNat]?).toArray = xs.toList.reverse.toArray := by
  have e : (List.range xs.size).filterMap (fun (m : Nat) => xs[((xs.size : Int) - 1 + (m : Int) * -1).toNat]?) = (List.range xs.size).filterMap (fun m => xs[xs.size - 1 - m]?) := by
    have : (fun (m : Nat) => xs[((xs.size : Int) - 1 + (m : Int) * -1).toNat]?) = fun m => xs[xs.size - 1 - m]? := by
      funext m
      have : ((xs.size : Int) - 1 + (m : Int) * -1).toNat = xs.size - 1 - m := by omega
      rw [this]
    rw [this]
  rw [e]
  have e2 : (List.range xs.size).filterMap (fun m => xs[xs.size - 1 - m]?) = ((List.range xs.size).map fun k => xs.size - 1 - k).filterMap (xs[·]?) := by rw [List.filterMap_map]; rfl
  rw [e2, PySem.W.krv_range, List.filterMap_reverse, PySem.W.krv_all]
theorem getItem_tuple_rev {t sl : Addr} {items : Array Value} {u : Tok} {Q : Value → Shared → Prop} (ht : IsTup s.heap t items) (hs : s.heap.IsSliceOf sl .none .none (.int (-1) u))
    (h : Q (.ref s.heap.objs.size) { s with heap := s.heap.push { cls := .type "tuple", data := .seq items.toList.reverse.toArray } })
    (hsz : items.size ≤ sizeLine) : wpAny (model prog w) A (getItem (.ref t) (.ref sl)) Q E s := by
  have htake : sizeOk (.seq items.toList.reverse.toArray) := by
    show items.toList.reverse.toArray.size ≤ sizeLine
    simpa using hsz
  obtain ⟨os, hos, hcs, hds⟩ := id hs
  have hTs : s.TypeIs (.ref sl) "slice" := ⟨os, hos, hcs⟩
  unfold getItem
  try with_reducible refine wpAny_holding ?_
  first | refine wpAny_bind (wpAny_pure ?_) | skip
  refine wpAny_bind (wpAny_sequenceKey ht.typeIs (by decide) ?_)
  refine wpAny_bind (wpAny_callSpecial?_slot (name := Str.ofString "__getitem__") ht.typeIs PyProof.Rows.slot_tuple_getitem
    (wpAny_call_entry PyProof.Rows.slot_tuple_getitem ht.typeIs entry_tuple_getitem ?_ (args_tuple_getitem _ _)))
  show wpAny _ _ (Builtin.Tuple.tupleItemsOf (.ref t) >>= _) _ _ s
  refine wpAny_bind (tupleItemsOf_ ht ?_)
  refine wpAny_bind (wpAny_typeOf hTs ?_)
  rw [if_pos (by decide)]
  refine wpAny_bind (sliceApplied_rev hs ?_)
  have hno : ¬ ((((items.size : Int) - 1) == 0 && (-1 : Int) == 1 && items.size == items.size) = true) := by simp
  show wpAny _ _ (if (((items.size : Int) - 1) == 0 && (-1 : Int) == 1 && items.size == items.size) = true then _ else _) _ _ s
  rw [if_neg hno, pick_rev]
  first
    | exact wpAny_bind (m := Builtin.Tuple.tupleExact _) (wpAny_newObj_type (wpAny_pure ⟨_, rfl, wpAny_pure h⟩) htake)
    | exact wpAny_bind (m := Builtin.Tuple.tupleExact _) (wpAny_newObj_type (wpAny_bind (wpAny_pure (wpAny_pure ⟨_, rfl, wpAny_pure h⟩))) htake)
    | exact wpAny_bind (wpAny_bind (m := Builtin.Tuple.tupleExact _) (wpAny_newObj_type (wpAny_pure (wpAny_pure ⟨_, rfl, wpAny_pure h⟩)) htake))
    | exact wpAny_bind (wpAny_bind (m := Builtin.Tuple.tupleExact _) (wpAny_newObj_type (wpAny_pure ⟨_, rfl, wpAny_pure h⟩) htake))
end
def revD : D → Option D
  | .tuple xs => some (.tuple xs.reverse)
  | .list xs => some (.list xs.reverse)
  | _ => none
def fRev (fa : Fe) : Fe := fun δ => fa δ >>= fun d => Rs.of (revD d)
section
variable {X : Cx} {R : Rl X.K X.w} {Ew : Ews} {e a b tg : Expr} {fa fb : Fe} {pos p1 p2 p3 : Pos}
theorem ed_rev {k : Nat} (he : PE X e (tE R Ew .sn fa)) : PE X (.Subscript e (.Slice none none (some (.UnaryOp .USub (.Constant (.int 1) k p1) p2)) p3) pos) (tE R Ew .nw (fRev fa)) := by
  refine ⟨fun pins s σ H Q I ⟨δ, p, q⟩ => ?_⟩
  refine Subscript_ (thn (he.run pins s σ H (fun v H1 => ∃ d r, Sn X.K X.w H1 v d ∧ revD d = some r ∧ Ex H H1 ∧ ∀ v H', Ex H H' → Nw X.K X.w H H' v r → Q v H') I (tE_then p (Ex.rf H) q fun d v H1 p1 e1 _ r1 q1 => ?_)) fun v s1 ⟨x, H1, I1, r1, d, r, hd, hr, e1, q1⟩ => ?_)
  · obtain ⟨r, hr, q1⟩ := q1.of
    exact ⟨d, r, r1, hr, e1, q1⟩
  have hst : PO X (some (.UnaryOp .USub (.Constant (.int 1) k p1) p2)) (tPart (tUn (rU fun i => .int (-i)) (tC (.int 1)))) := po_some (pe_un un_neg pe_int)
  refine wpAny_Slice (thn (po_none.run pins s1 σ H1 (fun o H2 => o = none ∧ H2 = H1) I1 ⟨rfl, rfl⟩) fun vl s2 ⟨l, H2, I2, pl, el, e2⟩ => ?_)
  subst el e2
  refine thn (po_none.run pins s2 σ H2 (fun o H3 => o = none ∧ H3 = H2) I2 ⟨rfl, rfl⟩) fun vu s3 ⟨u, H3, I3, pu, eu, e3⟩ => ?_
  subst eu e3
  refine thn (hst.run pins s3 σ H3 (fun o H4 => o = some (-1) ∧ H4 = H3) I3 ⟨1, rfl, -1, rfl, rfl, rfl⟩) fun vs s4 ⟨o, H4, I4, ps, eo, e4⟩ => ?_
  subst eo e4
  have I5 : Inv X pins σ H4 { s4 with heap := s4.heap.push { cls := .type "slice", data := .fields #[vl, vu, vs] } } := I4.kept (t' := s4.toks) fun b ob q => Heap.get?_push_of_some _ q
  have hnew : H4 (s4.heap.push { cls := .type "slice", data := .fields #[vl, vu, vs] }).objs.size = none := I5.hok.fresh (Nat.le_refl _)
  unfold revD at hr
  split at hr
  · cases hr
    obtain ⟨pa, xs, rfl, h1, h2⟩ := hd.tup_
    cases r1
    obtain ⟨its, rv, ht, hz⟩ := I5.tuple h1
    have hlen := rv.length
    cases pl; cases pu; cases ps
    show wpAny (model X.prog X.w) X.A (subscriptTail e (.Slice none none (some (.UnaryOp .USub (.Constant (.int 1) k p1) p2)) p3) (.ref pa) (.ref s4.heap.objs.size)) (EP X pins σ Q) X.xe _
    refine tail_any (ops := [.ref pa, .ref s4.heap.objs.size]) ht.typeIs (PyProof.Rows.slot_tuple_getitem.lookup) ?_ (by with_unfolding_all rfl)
    refine getItem_tuple_rev ht (Heap.IsSliceOf.new _ _ _ _) ?_ (by rw [List.size_toArray]; omega)
    refine ⟨.ref _, _, I5.laid (t' := s4.toks) (o := .tup xs.reverse) (fun b ob q => Heap.get?_push_of_some _ q) (Nat.le_refl _) ?_, rfl, q1 _ _ (e1.tr (Ex.nw hnew)) (.tup (.tup (.inl (.inl upd_same)) (h2.reverse.ex (Ex.nw hnew))))⟩
    exact ⟨by rw [List.length_reverse]; exact hz, _, rv.reverse, ⟨_, Heap.get?_push_size _ rfl, rfl, _, rfl⟩⟩
  · cases hr
    obtain ⟨pa, xs, rfl, h1, h2⟩ := hd.lst_
    cases r1
    obtain ⟨its, rv, ht, hz⟩ := I5.list (.inl h1)
    have hlen := rv.length
    show wpAny (model X.prog X.w) X.A (subscriptTail e (.Slice none none (some (.UnaryOp .USub (.Constant (.int 1) k p1) p2)) p3) (.ref pa) (.ref s4.heap.objs.size)) (EP X pins σ Q) X.xe { s4 with heap := s4.heap.push { cls := .type "slice", data := .fields #[vl, vu, vs] } }
    refine tail_any (ops := [.ref pa, .ref s4.heap.objs.size]) ht.isList.typeIs (PySem.slot_list_getitem.lookup) ?_ (by with_unfolding_all rfl)
    refine wpAny_getItem_list_slice ht.isList (Heap.IsSliceOf.new _ vl vu vs) pl pu ps (by decide) ?_ (by rw [List.size_toArray]; omega)
    rw [PySem.W.krv_pick]
    refine ⟨.ref _, _, I5.laid (t' := s4.toks) (o := .lst xs.reverse) (fun b ob q => Heap.get?_push_of_some _ q) (Nat.le_refl _) ?_, rfl, q1 _ _ (e1.tr (Ex.nw hnew)) (.lst (e1.fresh hnew) upd_same (h2.reverse.ex (Ex.nw hnew)))⟩
    exact ⟨by rw [List.length_reverse]; exact hz, _, 0, rv.reverse, Heap.get?_push_size _ rfl⟩
  · cases hr
end

/-! ### zip -/
def zipL : List D → List D → List D
  | x :: xs, y :: ys => .tuple [x, y] :: zipL xs ys
  | _, _ => []
def zipD : D → D → Option (List D)
  | .tuple xs, .tuple ys => some (zipL xs ys)
  | .list xs, .list ys => some (zipL xs ys)
  | _, _ => none
def fZip (fa fb : Fe) : Fa := fun δ => fa δ >>= fun d => fb δ >>= fun d' => Rs.of (zipD d d')
theorem zipL_length : ∀ xs ys : List D, (zipL xs ys).length = min xs.length ys.length
  | [], _ => by simp [zipL]
  | _ :: _, [] => by simp [zipL]
  | x :: xs, y :: ys => by simp [zipL, zipL_length xs ys]
theorem zipL_get : ∀ {xs ys : List D} {i : Nat} {d : D}, (zipL xs ys)[i]? = some d → ∃ x y, xs[i]? = some x ∧ ys[i]? = some y ∧ d = .tuple [x, y]
  | [], _, _, _, h => by simp [zipL] at h
  | _ :: _, [], _, _, h => by simp [zipL] at h
  | x :: xs, y :: ys, 0, d, h => by
    simp only [zipL, List.getElem?_cons_zero, Option.some.injEq] at h
    exact ⟨x, y, rfl, rfl, h.symm⟩
  | x :: xs, y :: ys, i + 1, d, h => by
    simp only [zipL, List.getElem?_cons_succ] at h
    exact zipL_get (xs := xs) (ys := ys) (i := i) (by simpa using h)
section
variable {K : PySem.W.Frag} {w : World} {H1 : Hp} {a b : Addr} {xs ys : List V} {ds es : List D}
theorem stp_zipT (h : SqT K H1 a xs) (hd : DaL K w H1 xs ds) (h' : SqT K H1 b ys) (hd' : DaL K w H1 ys es) : Stp K w (RZ.ItzT K a b) H1 (zipL ds es) where
  stop := fun i H' k hi => ⟨xs, ys, k.sqT h, k.sqT h', by
    rw [zipL_length] at hi
    have := hd.length; have := hd'.length
    omega⟩
  go := fun i H' d k hi => by
    obtain ⟨x, y, hx, hy, rfl⟩ := zipL_get hi
    obtain ⟨v, hv, _⟩ := hd.get hx
    obtain ⟨u, hu, _⟩ := hd'.get hy
    exact ⟨xs, ys, v, u, k.sqT h, k.sqT h', hv, hu⟩
  yld := fun i H' d x H'' k hi y => by
    obtain ⟨T, v, u, rfl, hT, rfl, f1, f2⟩ := y
    obtain ⟨x, y, hx, hy, rfl⟩ := zipL_get hi
    obtain ⟨v', hv, dv⟩ := hd.get hx
    obtain ⟨u', hu, du⟩ := hd'.get hy
    have := f1 xs (k.sqT h)
    rw [hv] at this; cases this
    have := f2 ys (k.sqT h')
    rw [hu] at this; cases this
    exact ⟨Ex.nw hT, .tup (.inl (.inl upd_same)) (.cons ((dv.kp k).ex (Ex.nw hT)) (.cons ((du.kp k).ex (Ex.nw hT)) .nil))⟩
theorem stp_zipL {o o' : Obj} (h : H1 a = some (.frz o (.lst xs))) (hd : DaL K w H1 xs ds) (h' : H1 b = some (.frz o' (.lst ys))) (hd' : DaL K w H1 ys es) : Stp K w (Itz K a b) H1 (zipL ds es) where
  stop := fun i H' k hi => ⟨xs, ys, .inl (.inr ⟨o, k.frz _ _ _ h⟩), .inl (.inr ⟨o', k.frz _ _ _ h'⟩), by
    rw [zipL_length] at hi
    have := hd.length; have := hd'.length
    omega⟩
  go := fun i H' d k hi => by
    obtain ⟨x, y, hx, hy, rfl⟩ := zipL_get hi
    obtain ⟨v, hv, _⟩ := hd.get hx
    obtain ⟨u, hu, _⟩ := hd'.get hy
    exact ⟨xs, ys, v, u, .inl (.inr ⟨o, k.frz _ _ _ h⟩), .inl (.inr ⟨o', k.frz _ _ _ h'⟩), hv, hu⟩
  yld := fun i H' d x H'' k hi y => by
    obtain ⟨T, v, u, rfl, hT, rfl, f1, f2⟩ := y
    obtain ⟨x, y, hx, hy, rfl⟩ := zipL_get hi
    obtain ⟨v', hv, dv⟩ := hd.get hx
    obtain ⟨u', hu, du⟩ := hd'.get hy
    have := f1 xs (.inl (.inr ⟨o, k.frz _ _ _ h⟩))
    rw [hv] at this; cases this
    have := f2 ys (.inl (.inr ⟨o', k.frz _ _ _ h'⟩))
    rw [hu] at this; cases this
    exact ⟨Ex.nw hT, .tup (.inl (.inl upd_same)) (.cons ((dv.kp k).ex (Ex.nw hT)) (.cons ((du.kp k).ex (Ex.nw hT)) .nil))⟩
end
section
variable {X : Cx} {R : Rl X.K X.w} {Ew : Ews} {e a b tg : Expr} {fa fb : Fe} {pos p1 p2 p3 : Pos}
theorem ei_zip {elts : List Expr} {kk : Nat} {tpos : Pos} (ha : PE X a (tE R Ew .da fa)) (hb : PE X b (tE R Ew .da fb)) (hg : Gl X "zip") (hm : X.mg "zip" = none)
    (hs : starEach [a, b] X.env = (false, eval a X.env) :: starEach [b] X.env := by rfl) (hs2 : starEach [b] X.env = (false, eval b X.env) :: starEach [] X.env := by rfl) (hpl : (backTo pos (starEach [b] X.env)).any (·.1) = false := by rfl) :
    PI X (.Tuple elts kk tpos) (.Call (.Name "zip" p1) [a, b] [] pos) (tI R Ew (fZip fa fb)) := by
  refine PI.imp (RZ.pi_zipA hg hm (pa_cons ha (pa_cons hb pa_nil hs2) hs) hs hpl) fun σ H Q ⟨δ, p, q⟩ => ?_
  refine tE_then p (Ex.rf H) q fun d v H1 p1 e1 _ r1 q1 => ?_
  refine tE_then p1 e1 q1 fun d' v' H2 p2 e2 e02 r2 q2 => ?_
  obtain ⟨ds, hds, q3⟩ := q2.of
  have r1' := Da.ex e2 r1
  unfold zipD at hds
  split at hds
  · cases hds
    cases r1' with
    | tup h1 h2 =>
      cases r2 with
      | tup h3 h4 => exact ⟨_, _, _, _, rfl, .inr ⟨h1, h3, q3 _ _ e02 (stp_zipT h1 h2 h3 h4)⟩⟩
  · cases hds
    cases r1' with
    | lst h1 h2 =>
      cases r2 with
      | lst h3 h4 => exact ⟨_, _, _, _, rfl, .inl ⟨.inl (.inr ⟨_, h1⟩), .inl (.inr ⟨_, h3⟩), q3 _ _ e02 (stp_zipL h1 h2 h3 h4)⟩⟩
  · cases hds
end

/-! ### a, b, c = [], [], [] -/
def gPar3L (i j l : Nat) : Fs := fun δ => .nx (((δ.set i (.own (.list []))).set j (.own (.list []))).set l (.own (.list [])))
section
variable {X : Cx} {M : Addr → Prop} {H0 : Hp} {Ew : Ews} {pos : Pos}
theorem es_par3L {i j l : Nat} {x y z : Str} {px py pz pt : Pos} {kt k2 : Nat} {pt2 q1 q2 q3 : Pos} (hc : X.calm = true) (hN : X.N.Nodup) (hi : X.N[i]? = some x) (hj : X.N[j]? = some y) (hl : X.N[l]? = some z) (hij : i ≠ j) (hil : i ≠ l) (hjl : j ≠ l)
    (hx : X.env.scope.names.lookup x = some .local) (hy : X.env.scope.names.lookup y = some .local) (hz : X.env.scope.names.lookup z = some .local)
    (hw : swappedStores [.Tuple [.Name x px, .Name y py, .Name z pz] kt pt] (.Tuple [.List [] q1, .List [] q2, .List [] q3] k2 pt2) X.env = pure (some [x, y, z]))
    (hs : swapsWithSole [.Tuple [.Name x px, .Name y py, .Name z pz] kt pt] (.Tuple [.List [] q1, .List [] q2, .List [] q3] k2 pt2) pos.line X.env = pure false := by rfl) :
    PS X (.Assign [.Tuple [.Name x px, .Name y py, .Name z pz] kt pt] (.Tuple [.List [] q1, .List [] q2, .List [] q3] k2 pt2) pos) (tS M H0 Ew X.K X.w (gPar3L i j l)) := by
  refine PS.impI (ps_par3 hc hN hi hj hl hij hil hjl hx hy hz (pa_cons (pe_lst pa_nil) (pa_cons (pe_lst pa_nil) (pa_cons (pe_lst pa_nil) pa_nil))) hw hs) fun pins s D σ H I ⟨δ, h, q⟩ => ?_
  have l1 : i < σ.length := by rw [I.len]; exact (List.getElem?_eq_some_iff.mp hi).1
  have l2 : j < σ.length := by rw [I.len]; exact (List.getElem?_eq_some_iff.mp hj).1
  have l3 : l < σ.length := by rw [I.len]; exact (List.getElem?_eq_some_iff.mp hl).1
  refine ⟨Nat.zero_le _, fun a1 n1 => ⟨Nat.zero_le _, fun a2 n2 => ⟨Nat.zero_le _, fun a3 n3 => ⟨.ref a1, .ref a2, .ref a3, rfl, ?_⟩⟩⟩⟩
  have h1 := h.setNew (i := i) l1 (Ex.nw n1) (.lst n1 upd_same .nil) (.inl ⟨_, rfl⟩)
  have h2 := h1.setNew (i := j) (by simpa using l2) (Ex.nw n2) (.lst n2 upd_same .nil) (.inl ⟨_, rfl⟩)
  have h3 := h2.setNew (i := l) (by simpa using l3) (Ex.nw n3) (.lst n3 upd_same .nil) (.inl ⟨_, rfl⟩)
  exact q _ _ h3 (((Ex.nw n1).tr (Ex.nw n2)).tr (Ex.nw n3)).kp (by simp)
end
end Hm
/-! Hm22: dict(..) of pairs -/
namespace Hm
open PySem PySem.Spec PyProof.Rows L2 Ob PySem.SeqAt

/-- what is known of the pairs -/
def PrAt (K : PySem.W.Frag) (w : World) (H : Hp) (h : Heap) (p : D × D) (it : Value) : Prop :=
  ∃ (b : Addr) (u z : Value) (kv vv : V) (n : NestedKey), it = .ref b ∧ IsTup h b #[u, z] ∧ RelV kv u ∧ RelV vv z ∧ Da K w H kv p.1 ∧ Da K w H vv p.2 ∧ keyOf p.1 = some n ∧ NestedIs h n u
def putAll (kvs : List (D × D)) (ps : List (D × D)) : List (D × D) := ps.foldl (fun acc p => dPut acc p.1 p.2) kvs
theorem EK.at {w : World} {h h' : Heap} {es : List DictEntry} {ks : List NestedKey} (e : EK w h es ks) (hk : ∀ a o vs n, h.get? a = some o → o.data = .seq vs n → h'.get? a = some o) : EK w h' es ks :=
  ⟨e.1, fun j en k h1 h2 => let ⟨a, b, c⟩ := e.2 j en k h1 h2; ⟨a, NestedIs.at hk k en.key b, c⟩⟩
theorem PrAt.at {K : PySem.W.Frag} {w : World} {H : Hp} {h h' : Heap} {p : D × D} {it : Value} (e : PrAt K w H h p it) (hk : ∀ a o vs n, h.get? a = some o → o.data = .seq vs n → h'.get? a = some o) : PrAt K w H h' p it := by
  obtain ⟨b, u, z, kv, vv, n, e1, ⟨o, ho, hc, m, hd⟩, e3⟩ := e
  exact ⟨b, u, z, kv, vv, n, e1, ⟨o, hk _ _ _ _ ho hd, hc, m, hd⟩, e3.1, e3.2.1, e3.2.2.1, e3.2.2.2.1, e3.2.2.2.2.1, NestedIs.at hk _ _ e3.2.2.2.2.2⟩
theorem EK.snoc {w : World} {h : Heap} {es : List DictEntry} {ks : List NestedKey} (e : EK w h es ks) {k : NestedKey} {u v : Value} (hk : NestedIs h k u) (h8 : k.depth ≤ 8) : EK w h (es ++ [⟨k.hash w, u, v⟩]) (ks ++ [k]) := by
  refine ⟨by simp [e.1], fun j en k' h1 h2 => ?_⟩
  by_cases hj : j < es.length
  · rw [List.getElem?_append_left hj] at h1
    rw [List.getElem?_append_left (by have := e.1; omega)] at h2
    exact e.2 j en k' h1 h2
  · have hl := e.1
    rw [List.getElem?_append_right (by omega)] at h1
    rw [List.getElem?_append_right (by omega)] at h2
    have : j - es.length = j - ks.length := by omega
    rw [this] at h1
    cases hx : j - ks.length with
    | zero =>
      rw [hx] at h1 h2
      simp only [List.getElem?_cons_zero, Option.some.injEq] at h1 h2
      subst h1 h2
      exact ⟨rfl, hk, h8⟩
    | succ m => rw [hx] at h1; simp at h1
theorem EK.setv {w : World} {h : Heap} {es : List DictEntry} {ks : List NestedKey} (e : EK w h es ks) {j : Nat} {en : DictEntry} {v : Value} (hj : es[j]? = some en) : EK w h (es.set j { en with val := v }) ks := by
  refine ⟨by simp [e.1], fun i x k h1 h2 => ?_⟩
  by_cases hij : j = i
  · subst hij
    rw [List.getElem?_set_self (List.getElem?_eq_some_iff.mp hj).1] at h1
    cases h1
    exact e.2 j en k hj h2
  · rw [List.getElem?_set_ne hij] at h1
    exact e.2 i x k h1 h2
section
variable {prog : Program} {K : PySem.W.Frag} {w : World} {H : Hp} {A : Around} {E : Value → Shared → Prop}
theorem upd_loopN {R : Result → Shared → Prop} {S I l : Addr} {items : Array Value} {res : Value} (hh : A.handled = none) (hu : A.units + 16 < cLine) (hlI : l ≠ I) (hSI : S ≠ I) (hSl : S ≠ l) :
    ∀ (rest : List (D × D)) (i : Nat) (es : List DictEntry) (ks : List NestedKey) (kvs : List (D × D)) (ix : Int) (t : Tok) (s : Shared), items.size = i + rest.length → es.length + rest.length ≤ sizeLine →
      (∀ (j : Nat) (q : D × D), rest[j]? = some q → ∃ it, items[i + j]? = some it ∧ PrAt K w H s.heap q it) →
      s.heap.IsListIter I l i → s.heap.IsList l items → DicAt S es s.heap → EK w s.heap es ks → (kvs.map fun p => keyOf p.1) = ks.map some → (kvs.map fun p => keyOf p.1).Nodup → DaE K w H es kvs →
      (∀ h' tk es', DicAt S es' h' → DaE K w H es' (putAll kvs rest) → ((putAll kvs rest).map fun p => keyOf p.1).Nodup → (∀ b o, b ≠ S → b ≠ I → s.heap.get? b = some o → h'.get? b = some o) → R (.ok (.ret res)) { s with heap := h', toks := tk }) →
      codeAny (model prog w) A (.builtin "dict.update.loop" ⟨[.ref S, .ref I, .int ix t, res], []⟩) R s
  | [], i, es, ks, kvs, ix, t, s, hsz, hln, ht, hit, hl, hm, hek, hks, hnd, hda, hR => by
    refine codeAny_builtin ud_entry ?_
    rw [Around.under_plainId ud_plain _]
    show wpAny _ A.in1 (pyNext (.ref I) >>= _) _ _ s
    refine wpAny_bind (wpAny_pyNext_list_end (A := A.in1) hh hit hl (by first | exact Array.getElem?_eq_none (Nat.le_of_eq hsz) | (simp at hsz; simp; omega)) fun h' he => ?_)
    show wpAny _ A.in1 (Builtin.Dict.addKeywords S [] >>= _) _ _ _
    refine wpAny_bind (wpAny_pure (wpAny_pure ?_))
    exact hR h' s.toks es (hm.stay fun o e => he S o hSI e) hda hnd fun b o _ hb e => he b o hb e
  | q :: rest, i, es, ks, kvs, ix, t, s, hsz, hln, ht, hit, hl, hm, hek, hks, hnd, hda, hR => by
    obtain ⟨it, hb, b, u, z, kv, vv, n, rfl, htup, rk, rv, dk, dv, hn, hni⟩ := ht 0 q rfl
    rw [List.length_cons] at hsz hln
    have hmI : ∀ a o vs m, s.heap.get? a = some o → o.data = .seq vs m → a ≠ I := fun a o vs m e1 e2 z => by
      obtain ⟨o', e3, _, e4⟩ := hit
      rw [z, e3] at e1
      cases e1
      rw [e4] at e2
      cases e2
    have hmS : ∀ (h : Heap) (es : List DictEntry), DicAt S es h → ∀ a o vs m, h.get? a = some o → o.data = .seq vs m → a ≠ S := fun h es hd a o vs m e1 e2 z => by
      obtain ⟨_, _, o', ep, e3, _, e4⟩ := hd
      rw [z, e3] at e1
      cases e1
      rw [e4] at e2
      cases e2
    refine codeAny_builtin ud_entry ?_
    rw [Around.under_plainId ud_plain _]
    show wpAny _ A.in1 (pyNext (.ref I) >>= _) _ _ s
    refine wpAny_bind (wpAny_pyNext_list_item (x := .ref b) hit hl (by simpa using hb) fun h1 hit1 hs1 => ?_)
    have k1 : ∀ a o vs m, s.heap.get? a = some o → o.data = .seq vs m → h1.get? a = some o := fun a o vs m e1 e2 => hs1.extBut a o (hmI a o vs m e1 e2) e1
    have hbI : b ≠ I := by
      obtain ⟨o, ho, _, m, hd⟩ := id htup
      exact hmI b o _ m ho hd
    have ht1 : IsTup h1 b #[u, z] := htup.extBut hs1.extBut hbI
    have hl1 : h1.IsList l items := hl.extBut hs1.extBut hlI
    have hm1 : DicAt S es h1 := hm.stay fun o e => hs1.extBut S o hSI e
    have hek1 := hek.at k1
    obtain ⟨o, ho, hc, m, hd⟩ := id ht1
    obtain ⟨n1, n2⟩ := keyOf_some hn
    have hlen := hda.length
    show wpAny _ A.in1 (holding [Value.ref b] _ >>= _) _ _ _
    refine wpAny_bind (wpAny_holding ?_)
    refine wpAny_bind (wpAny_tryCatch ?_)
    unfold Builtin.Dict.pairItems
    refine wpAny_bind (wpAny_typeOf (T := "tuple") ⟨o, ho, hc⟩ ?_)
    rw [if_pos (by first | decide | rfl | simp)]
    refine wpAny_bind (wpAny_seqItems ho hd (wpAny_pure ?_))
    show wpAny _ A.in1 (holding [u, z] (dictSet S u z)) _ _ _
    have goon : ∀ (es' : List DictEntry) (ks' : List NestedKey) (h2 : Heap) (tk : Nat), DicAt S es' h2 → Heap.SameBut S h1 h2 → EK w h1 es' ks' → ((dPut kvs q.1 q.2).map fun p => keyOf p.1) = ks'.map some → DaE K w H es' (dPut kvs q.1 q.2) → es'.length ≤ es.length + 1 →
        codeAny (model prog w) A (.builtin "dict.update.loop" ⟨[.ref S, .ref I, .int (ix + 1) 0, res], []⟩) R { s with heap := h2, toks := tk } := fun es' ks' h2 tk hd2 hs2 hek2 hks2 hda2 hl2 => by
      have k2 : ∀ a o vs m, h1.get? a = some o → o.data = .seq vs m → h2.get? a = some o := fun a o vs m e1 e2 => hs2.extBut a o (hmS h1 es hm1 a o vs m e1 e2) e1
      have k12 : ∀ a o vs m, s.heap.get? a = some o → o.data = .seq vs m → h2.get? a = some o := fun a o vs m e1 e2 => k2 a o vs m (k1 a o vs m e1 e2) e2
      refine upd_loopN (items := items) hh hu hlI hSI hSl rest (i + 1) es' ks' (dPut kvs q.1 q.2) (ix + 1) 0 _ (show items.size = i + 1 + rest.length by omega) (by omega) (fun j q' e => ?_) ?_ ?_ hd2 (hek2.at k2) hks2 (dPut_nodup hn hnd) hda2 fun h' tk' es2 a1 a2 a3 k => ?_
      · obtain ⟨it', e1, e2⟩ := ht (j + 1) q' (by simpa using e)
        refine ⟨it', ?_, e2.at k12⟩
        rw [show i + 1 + j = i + (j + 1) by omega]
        exact e1
      · exact hit1.at fun o' e => hs2.extBut I o' (Ne.symm hSI) e
      · exact hl1.extBut hs2.extBut (Ne.symm hSl)
      · exact hR h' tk' es2 a1 a2 a3 fun c oc h3 h4 e => k c oc h3 h4 (hs2.extBut c oc h3 (hs1.extBut c oc h4 e))
    refine wpAny_holding (dset (s := { s with heap := h1 }) (show A.units + 1 + 8 < cLine by omega) (NestedIs.at k1 _ _ hni) n2 hm1 hek1 (ks_nodup hks hnd) (by omega) (fun hno h2 tk hd2 hs2 => ?_) fun j en hj hje h2 tk hd2 hs2 => ?_)
    · have hno' : dHas kvs n = false := by rw [← ks_mem hks]; exact decide_eq_false hno
      refine wpAny_pure ⟨plainId_quiet ud_plain _, goon _ (ks ++ [n]) h2 tk hd2 hs2 (hek1.snoc (NestedIs.at k1 _ _ hni) n2) ?_ ?_ (by simp)⟩
      · rw [dPut_new hn hno', List.map_append, List.map_append, hks]
        simp [hn]
      · rw [dPut_new hn hno']
        exact hda.append (.cons rk dk rv dv hn .nil)
    · obtain ⟨d', z', zv, w1, w2, w3⟩ := hda.get hje
      have hat := ks_at hks hj w1
      refine wpAny_pure ⟨plainId_quiet ud_plain _, goon _ ks h2 tk hd2 hs2 (hek1.setv hje) ?_ ?_ (by simp)⟩
      · rw [dPut_old hn hnd w1 hat, ← hks, List.map_set]
        refine set_same ?_
        rw [List.getElem?_map, w1]; rfl
      · rw [dPut_old hn hnd w1 hat]
        exact DaE.put rv dv hda hje w1
end

/-! ### the call -/
def prOf : D → Option (D × D)
  | .tuple [k, v] => (keyOf k).map fun _ => (k, v)
  | _ => none
def prsOf : List D → Option (List (D × D))
  | [] => some []
  | x :: xs => match prOf x, prsOf xs with
    | some p, some ps => some (p :: ps)
    | _, _ => none
def dictD : D → Option D
  | .list xs => if fits xs.length = true then (prsOf xs).map fun ps => .dict (putAll [] ps) else none
  | _ => none
theorem prOf_some {x : D} {p : D × D} (h : prOf x = some p) : x = .tuple [p.1, p.2] ∧ ∃ n, keyOf p.1 = some n := by
  unfold prOf at h
  split at h
  · rename_i k v
    cases hk : keyOf k with
    | none => rw [hk] at h; cases h
    | some n =>
      rw [hk] at h
      cases h
      exact ⟨rfl, n, hk⟩
  · cases h
theorem prsOf_at : ∀ {xs : List D} {ps : List (D × D)}, prsOf xs = some ps → ps.length = xs.length ∧ ∀ (j : Nat) (p : D × D), ps[j]? = some p → ∃ x, xs[j]? = some x ∧ prOf x = some p
  | [], ps, h => by cases h; exact ⟨rfl, fun j p e => by simp at e⟩
  | x :: xs, ps, h => by
    unfold prsOf at h
    split at h
    · rename_i p qs h1 h2
      cases h
      obtain ⟨l, k⟩ := prsOf_at h2
      refine ⟨by simp [l], fun j q e => ?_⟩
      cases j with
      | zero =>
        simp only [List.getElem?_cons_zero, Option.some.injEq] at e
        subst e
        exact ⟨x, rfl, h1⟩
      | succ j => exact k j q (by simpa using e)
    · cases h
section
variable {X : Cx}
theorem cd_dict (hu : X.A.units + 64 < cLine) (hcalm : X.calm = true) : CallD X (.type "dict") (g1 dictD) := by
  intro pins s σ H xs us Q I r h
  obtain ⟨ds, d, hs, hg, q⟩ := h
  match ds, hg with
  | [e], hg =>
    obtain ⟨v0, rfl, hv⟩ := hs.one
    replace hg : dictD e = some _ := hg
    obtain ⟨u, rfl, rx⟩ := vals1 r
    unfold dictD at hg
    split at hg
    · rename_i xs'
      split at hg
      · rename_i hf
        · skip
          cases hp : prsOf xs' with
          | none => rw [hp] at hg; cases hg
          | some ps =>
            rw [hp] at hg
            cases hg
            obtain ⟨a, vs, rfl, h1, h2⟩ := hv.lst_
            cases rx
            obtain ⟨its, rv, pl, hz⟩ := I.list (.inl h1)
            obtain ⟨o, n, ho, hc, hd, hdat⟩ := pl
            obtain ⟨pl1, pl2⟩ := prsOf_at hp
            have hlen : its.length = ps.length := by rw [pl1, ← h2.length, ← rv.length]
            have key0 : ∀ (j : Nat) (q : D × D), ps[j]? = some q → ∃ it, its.toArray[j]? = some it ∧ PrAt X.K X.w H s.heap q it := fun j p hj => by
              obtain ⟨x, hx, hpx⟩ := pl2 j p hj
              obtain ⟨rfl, n, hn⟩ := prOf_some hpx
              obtain ⟨v, hv1, hv2⟩ := h2.get hx
              obtain ⟨u, hu1, hu2⟩ := rv.get hv1
              cases hv2 with
              | tup t1 t2 =>
                cases hu2
                obtain ⟨its2, rv2, ht2, _⟩ := I.tuple t1
                cases t2 with
                | cons d1 t2 =>
                  cases t2 with
                  | cons d2 t2 =>
                    cases t2
                    obtain ⟨u1, u2, ei, r1, r2⟩ := vals2 rv2
                    subst ei
                    exact ⟨_, by simpa using hu1, _, u1, u2, _, _, n, rfl, ht2, r1, r2, d1, d2, hn, (Sn.da d1).nested I r1 (keyOf_some hn).1⟩
            have hh := I.ok.hd hcalm
            have hln : ps.length ≤ sizeLine := by rw [← hlen, ← rv.length]; exact hz
            have hbig : (s.heap.objs.size == sysModules) = false := beq_eq_false_iff_ne.mpr (Nat.ne_of_gt I.big)
            refine callType_codes (Q₁ := fun obj s₁ => obj = .ref s.heap.objs.size ∧ s₁ = { s with heap := s.heap.push { cls := .type "dict", data := .dict #[] } }) PySem.F.kt_called_dict (PySem.F.kt_typeCall_dict_1 _) PySem.F.entry_dict_init (kt_code_dict_new _ ⟨rfl, rfl⟩) ?_
            rintro obj s₁ ⟨rfl, rfl⟩
            have hnew : DicAt s.heap.objs.size [] (s.heap.push { cls := .type "dict", data := .dict #[] }) := ⟨hbig, Nat.zero_le _, _, 0, Heap.get?_push_size _ rfl, ⟨rfl, rfl, rfl⟩, rfl⟩
            have hnewT : ({ s with heap := s.heap.push { cls := .type "dict", data := .dict #[] } } : Shared).TypeIs (.ref s.heap.objs.size) "dict" := hnew.typeIs
            have k0 : ∀ b o, s.heap.get? b = some o → (s.heap.push { cls := .type "dict", data := .dict #[] }).get? b = some o := fun b o e => Heap.get?_push_of_some _ e
            refine ⟨hnewT, PySem.F.args_dict_init_2 _ _, ?_⟩
            unfold Builtin.«dict.__init__»
            refine wpAny_bind ?_
            unfold Builtin.Dict.selfAndRest
            refine wpAny_bind (wpAny_notOrdered_dict hnewT ?_)
            show wpAny _ _ (pure (s.heap.objs.size, [Value.ref a])) _ _ _
            refine wpAny_pure ?_
            show wpAny _ _ (Builtin.Dict.updateFrom "dict.__init__" s.heap.objs.size (.ref a) [] .none) _ _ _
            unfold Builtin.Dict.updateFrom
            refine wpAny_bind (wpAny_typeOf (T := "list") ⟨o, k0 _ _ ho, hc⟩ ?_)
            rw [if_pos (by first | decide | rfl | simp)]
            refine wpAny_bind (miss_list (k0 _ _ ho) hc hdat hd hh fun h1' tk1 hk1 => ?_)
            rw [if_pos (show (none : Option Value).isNone = true from rfl)]
            refine wpAny_bind (wpAny_rule ?_)
            have hl1 : h1'.IsList a its.toArray := ⟨o, hk1 _ _ (k0 _ _ ho), hc, n, hdat⟩
            have hS1 : s.heap.objs.size < h1'.objs.size := by
              have e : (s.heap.push { cls := .type "dict", data := .dict #[] }).get? s.heap.objs.size = some { cls := .type "dict", data := .dict #[] } := Heap.get?_push_size _ rfl
              exact Heap.lt_size (hk1 _ _ e)
            refine wpAny_bind (wpAny_pyIter_list hl1 ?_)
            have k2 : ∀ b o, h1'.get? b = some o → (h1'.push { cls := .type "list_iterator", data := .fields #[.ref a, .int 0 0] }).get? b = some o := fun b o e => Heap.get?_push_of_some _ e
            have hlt : a < s.heap.objs.size := Heap.lt_size ho
            have kall : ∀ b o, s.heap.get? b = some o → (h1'.push { cls := .type "list_iterator", data := .fields #[.ref a, .int 0 0] }).get? b = some o := fun b o e => k2 _ _ (hk1 _ _ (k0 _ _ e))
            have key := upd_loopN (prog := X.prog) (K := X.K) (w := X.w) (H := H) (A := X.A.in1) (R := wants (fun r s₂ => r = .none ∧ EP X pins σ Q (.ref s.heap.objs.size) s₂) X.xe) (S := s.heap.objs.size) (I := h1'.objs.size) (l := a) (items := its.toArray) (res := Value.none) hh (show X.A.units + 1 + 16 < cLine by omega)
              (Nat.ne_of_lt (Nat.lt_trans hlt hS1)) (Nat.ne_of_lt hS1) (Nat.ne_of_gt hlt) ps 0 [] [] [] 0 0
              { s with heap := h1'.push { cls := .type "list_iterator", data := .fields #[.ref a, .int 0 0] }, toks := tk1 } (by rw [List.size_toArray, hlen, Nat.zero_add]) (by rw [List.length_nil, Nat.zero_add]; exact hln)
              (fun j p e => by
                obtain ⟨it, e1, e2⟩ := key0 j p e
                exact ⟨it, by rw [Nat.zero_add]; exact e1, e2.at fun a o vs n e _ => kall a o e⟩)
              ⟨_, Heap.get?_push_size _ rfl, rfl, rfl⟩ (hl1.at fun o e => k2 _ _ e) ((hnew.stay fun o e => hk1 _ _ e).stay fun o e => k2 _ _ e) ⟨rfl, fun j e k z => by simp at z⟩ rfl List.nodup_nil .nil
              (fun h' tk es' hd' hda hnd k => ⟨rfl, ?_⟩)
            · first
                | exact wpAny_pure ⟨plainId_quiet ud_plain _, key⟩
                | exact wpAny_bind (wpAny_pure (wpAny_pure ⟨plainId_quiet ud_plain _, key⟩))
            · have hfr : H s.heap.objs.size = none := I.hok.fresh (Nat.le_refl _)
              have hex := Ex.nw (o := dicO s.heap.objs.size es') hfr
              exact ⟨.ref s.heap.objs.size, upd H s.heap.objs.size (dicO s.heap.objs.size es'), I.laid (t' := tk) (fun b o e => k b o (Nat.ne_of_lt (Heap.lt_size e)) (Nat.ne_of_lt (Nat.lt_trans (Heap.lt_size e) hS1)) (kall b o e)) (Nat.le_refl _) (dicO_ok hd'), rfl, q _ _ hex (.dic hfr upd_same (hda.ex hex) hnd)⟩
      · cases hg
    · cases hg
end
end Hm
/-! Hm23: join; enumerate -/
namespace Hm
open PySem PySem.Spec PyProof.Rows L2 Ob PySem.SeqAt
def strOf : D → Option Str
  | .str x => some x
  | _ => none
def strsOf : List D → Option (List Str)
  | [] => some []
  | .str x :: r => (strsOf r).map (x :: ·)
  | _ :: _ => none
theorem strOf_some {d : D} {x : Str} (h : strOf d = some x) : d = .str x := by cases d <;> first | (cases h; rfl) | cases h
theorem strs_vs {K : PySem.W.Frag} {w : World} {H : Hp} : ∀ {vs : List V} {ds : List D} {ys : List Str}, DaL K w H vs ds → strsOf ds = some ys → vs = ys.map V.str
  | _, _, _, .nil, h => by cases h; rfl
  | _, _, ys, .cons (d := d) (ds := r) hd a, h => by
    cases d with
    | str x =>
      cases e : strsOf r with
      | none => rw [strsOf, e] at h; cases h
      | some zs =>
        rw [strsOf, e] at h
        cases h
        cases hd
        rw [strs_vs a e]; rfl
    | _ => cases h
/-- sep.join(..) -/
def joinOk (a : Str) (ys : List Str) : Bool := decide ((ys.map (·.length)).sum + ys.length * a.length ≤ 16777216)
def joinD : D → D → Option D
  | .str a, .list xs => (strsOf xs).bind fun ys => if joinOk a ys = true then some (.str (Txt.join a ys)) else none
  | .str a, .tuple xs => (strsOf xs).bind fun ys => if joinOk a ys = true then some (.str (Txt.join a ys)) else none
  | _, _ => none
def fStr (f : Fe) : Fe := fun δ => f δ >>= fun d => Rs.of (strOf d) >>= fun x => .ok (.str x)
section
variable {X : Cx} {R : Rl X.K X.w} {Ew : Ews} {o e : Expr} {fo fe : Fe} {pos apos : Pos}
theorem ed_join (ho : PE X o (tE R Ew .sn fo)) (he : PE X e (tE R Ew .sn fe)) (hs : starEach [e] X.env = [(false, eval e X.env)] := by rfl) (hbase : attributeBase o "join" X.env (eval o X.env) = eval o X.env := by rfl) (hline : (apos.endLine == pos.line) = true := by rfl) :
    PE X (.Call (.Attribute o "join" apos) [e] [] pos) (tE R Ew .nw (fOp joinD (fStr fo) fe)) := by
  refine PE.imp (pe_join ho he hs hbase hline) fun σ H Q ⟨δ, p, q⟩ => ?_
  have q' : Rk (fo δ >>= fun d => (Rs.of (strOf d) >>= fun x => .ok (.str x)) >>= fun x => fe δ >>= fun y => Rs.of (joinD x y)) (EW Ew δ H) (fun d => ∀ v H', Ex H H' → Res X.K X.w .nw H H' v d → Q v H') := by
    have : fOp joinD (fStr fo) fe δ = (fo δ >>= fun d => (Rs.of (strOf d) >>= fun x => .ok (.str x)) >>= fun x => fe δ >>= fun y => Rs.of (joinD x y)) := by
      unfold fOp fStr
      cases fo δ <;> rfl
    rw [← this]; exact q
  refine tE_then p (Ex.rf H) q' fun d v H1 p1 e1 _ r1 q1 => ?_
  obtain ⟨a, ha, q1⟩ := (Rk.bind (Rk.bind q1)).of
  cases strOf_some ha
  cases Sn.str_ r1
  refine ⟨⟨a, rfl⟩, ?_⟩
  refine tE_then p1 e1 q1 fun d2 v2 H2 p2 e2 e02 r2 q2 => ?_
  obtain ⟨r, hr, q2⟩ := q2.of
  unfold joinD at hr
  split at hr
  · rename_i x y a' xs hx
    cases hx
    cases hy : strsOf xs with
    | none => rw [hy] at hr; cases hr
    | some ys =>
      rw [hy] at hr
      simp only [Option.bind_some] at hr
      split at hr
      · rename_i hf
        cases hr
        obtain ⟨b, vs, rfl, h1, h2⟩ := r2.lst_
        rw [strs_vs h2 hy] at h1
        exact ⟨a, b, ys, rfl, rfl, .inl (.inl h1), of_decide_eq_true hf, q2 _ H2 e02 (.str _)⟩
      · cases hr
  · rename_i x y a' xs hx
    cases hx
    cases hy : strsOf xs with
    | none => rw [hy] at hr; cases hr
    | some ys =>
      rw [hy] at hr
      simp only [Option.bind_some] at hr
      split at hr
      · rename_i hf
        cases hr
        obtain ⟨b, vs, rfl, h1, h2⟩ := r2.tup_
        rw [strs_vs h2 hy] at h1
        exact ⟨a, b, ys, rfl, rfl, .inr h1, of_decide_eq_true hf, q2 _ H2 e02 (.str _)⟩
      · cases hr
  · cases hr
end
end Hm
/-! Hm24: enumerate of a tuple -/
namespace Hm
open PySem PySem.Spec PyProof.Rows L2 Ob PySem.SeqAt PySem.W
set_option maxHeartbeats 1000000 in
theorem meets_enumerate_newT {v : Value} {o : Obj} {H : Heap → Prop} (B : Begins v o H) :
    Meets (Builtin.«enumerate.__new__» ⟨[.type "enumerate", v], []⟩) (fun _ R s => H s.heap ∧
      R (.ok (.ret (.ref (s.heap.push o).objs.size))) { s with heap := (s.heap.push o).push { cls := .type "enumerate", data := .fields #[.none, .bool false, .ref s.heap.objs.size, rawInt 0, .none, .none] } }) :=
  .of_wp fun prog w A R s h => by
    obtain ⟨hp, g, d, tk, os⟩ := s; obtain ⟨h1, h⟩ := h
    have hsub := sub_enumerate
    have q1 : ∀ {A' : Around} {E : Value → Shared → Prop} {Q : Value → Shared → Prop}, Q (.ref hp.objs.size) ⟨hp.push o, g, d, tk, os⟩ → wpAny (model prog w) A' (pyIter v) Q E ⟨hp, g, d, tk, os⟩ :=
      fun q => B.iter prog w _ _ ⟨hp, g, d, tk, os⟩ _ h1 q
    wp_walk using q1
    refine wpAny_stack_any fun st => wpAny_pure ?_
    split
    · rename_i c _ _ _ _ _
      cases (c == Value.type "enumerate")
      · wp_walk using q1
        exact ⟨_, rfl, h⟩
      · wp_walk using q1
        exact ⟨_, rfl, h⟩
    · wp_walk using q1
      exact ⟨_, rfl, h⟩
section
variable {prog : Program} {w : World} {A : Around} {E : Value → Shared → Prop} {s : Shared}
theorem enum_begins1 {v : Value} {o : Obj} {H : Heap → Prop} {Q : Value → Shared → Prop} (B : Begins v o H) (h1 : H s.heap)
    (h : ∀ h', IsEnum h' (s.heap.objs.size + 1) s.heap.objs.size 0 .none → h'.get? s.heap.objs.size = some o → h'.objs.size = s.heap.objs.size + 2 →
      (∀ b o, s.heap.get? b = some o → h'.get? b = some o) → Q (.ref (s.heap.objs.size + 1)) { s with heap := h' }) :
    wpAny (model prog w) A (call (.type "enumerate") [v]) Q E s := by
  refine callType_new F.called_enumerate (by decide) (F.typeCall_enumerate_1 _) (F.newCall_enumerate_1 _) (fun obj => F.args_object_init_2 obj _) F.entry_enumerate_new
    (meets_enumerate_newT B) ⟨h1, ?_⟩
  have hz : (s.heap.push o).objs.size = s.heap.objs.size + 1 := Heap.size_push ..
  show _ ∧ _
  rw [hz]
  have he : IsEnum ((s.heap.push o).push { cls := .type "enumerate", data := .fields #[.none, .bool false, .ref s.heap.objs.size, rawInt 0, .none, .none] }) (s.heap.objs.size + 1) s.heap.objs.size 0 .none := by
    have := Heap.get?_push_size (s.heap.push o) (o := { cls := .type "enumerate", data := .fields #[.none, .bool false, .ref s.heap.objs.size, rawInt 0, .none, .none] }) rfl
    rw [hz] at this; exact this
  refine ⟨⟨_, he, rfl⟩, h _ he (Heap.get?_push_of_some _ (Heap.get?_push_size _ B.free)) (by rw [Heap.size_push, hz]) fun b o x => Heap.get?_push_of_some _ (Heap.get?_push_of_some _ x)⟩
end
/-- the tuple at a, each item in a new pair -/
def IteT (K : PySem.W.Frag) (a : Addr) : It :=
  ⟨fun i H => ∃ (xs : List V) (x : V), SqT K H a xs ∧ xs[i]? = some x, fun i H v H' => ∃ T x, v = .ref T ∧ H T = none ∧ H' = upd H T (.tup [.int (i : Nat), x]) ∧ ∀ xs, SqT K H a xs → xs[i]? = some x, fun i H => ∃ xs : List V, SqT K H a xs ∧ xs.length = i⟩
theorem turn_enumT {P : Program} {w : World} {K : PySem.W.Frag} {elts : List Expr} {kk : Nat} {tpos : Pos} (a e it : Addr) (hai : a ≠ it) (hae : a ≠ e) :
    Turn P w K (.Tuple elts kk tpos) (IteT K a) [e, it] e (fun i h => (∃ old, IsEnum h e it ((i : Nat) : Int) old) ∧ h.IsTupleIter it a i ∧ e ≠ it) where
  mem := by simp
  obj := fun i h st b hb => by
    obtain ⟨⟨old, he⟩, ⟨o, ho, hc, hd⟩, _⟩ := st
    have e' : b = e ∨ b = it := by simpa using hb
    rcases e' with z | z
    · rw [z]; exact ⟨_, he, fun v q => nomatch q⟩
    · rw [z]; exact ⟨o, ho, fun v q => by rw [hd] at q; cases q⟩
  keep := fun i h h' st k => let ⟨⟨old, he⟩, hi, hne⟩ := st; ⟨⟨old, k e (by simp) _ he⟩, hi.at fun o q => k it (by simp) o q, hne⟩
  item := by
    intro X hP hw hK hc i pins s σ H E I hf st hg
    subst hP hw hK
    obtain ⟨⟨old, he⟩, hit, hne⟩ := st
    obtain ⟨xs, x, hq, hx⟩ := hg
    obtain ⟨its, rv, p, hz⟩ := I.tuple hq
    obtain ⟨u, hu, ru⟩ := rv.get hx
    have hel : e < s.heap.objs.size := Heap.lt_size he
    have hil : it < s.heap.objs.size := by obtain ⟨_, q, _⟩ := hit; exact Heap.lt_size q
    have D := Draws.tuple (prog := X.prog) (w := X.w) (A := X.A.in1) (I.ok.hd hc) it a hai its.toArray
    have hlt : i < its.toArray.size := by have := (List.getElem?_eq_some_iff.mp hu).1; simpa using this
    refine wpAny_pyNext_enum_itemC D he ⟨hit, (show s.heap.IsTuple a its.toArray from p)⟩ hlt hne (by simp [hne, Ne.symm hae]) fun x' h' tk hP ho hst' hT hsz hk => ?_
    have hx' : x' = u := by
      have : its[i]? = some x' := by simpa using hP
      rw [hu] at this
      exact (Option.some.inj this).symm
    subst hx'
    refine ⟨_, rfl, wpAny_letOwnedTupleGo_enum (s := { s with heap := h', toks := tk + 1 }) ho fun h'' he' sb => ?_⟩
    have hT2 : h''.get? s.heap.objs.size = some { cls := .type "tuple", data := .seq #[.int i tk, x'] } := (sb.2 _ (Nat.ne_of_gt hel)).trans hT
    have new : ObjOk X.prog X.w (upd H s.heap.objs.size (.tup [.int (i : Nat), x])) h'' s.heap.objs.size (.tup [.int (i : Nat), x]) :=
      ⟨by show 2 ≤ sizeLine; decide, [.int i tk, x'], .cons ⟨_, rfl⟩ (.cons ru .nil), ⟨_, hT2, rfl, _, rfl⟩⟩
    have I1 : Inv X pins σ (upd H s.heap.objs.size (.tup [.int (i : Nat), x])) { s with heap := h'', toks := tk + 1 } :=
      I.turnedNew (ch := [e, it]) (fun b ob hb q => (sb.2 b (fun z => hb (by simp [z]))).trans (hk b ob (fun z => hb (by simp [z])) (fun z => hb (by simp [z])) q)) hf (Nat.le_refl _) new
    refine ⟨.ref s.heap.objs.size, _, I1, rfl, ⟨_, x, rfl, I.hok.fresh (Nat.le_refl _), rfl, fun ys hy => by rw [I.tuple_inj hy hq]; exact hx⟩, ⟨⟨x', ?_⟩, hst'.1.at fun o q => (sb.2 it (Ne.symm hne)).trans q, hne⟩, fun b hb => ?_⟩
    · have e1 : ((i + 1 : Nat) : Int) = (i : Int) + 1 := by omega
      rw [e1]; exact he'
    · have hb' : b < s.heap.objs.size := by
        have e' : b = e ∨ b = it := by simpa using hb
        rcases e' with z | z
        · rw [z]; exact hel
        · rw [z]; exact hil
      rw [upd_ne (Nat.ne_of_lt hb')]
      exact (hf b hb).1
  done := by
    intro X hP hw hK hc i pins s σ H E I hf st hg
    subst hP hw hK
    obtain ⟨⟨old, he⟩, hit, hne⟩ := st
    obtain ⟨xs, hq, hx⟩ := hg
    obtain ⟨its, rv, p, hz⟩ := I.tuple hq
    obtain ⟨f0, f1, f2, f3, f4, f5⟩ := hf it (by simp)
    have hl := rv.length
    have D := Draws.tuple (prog := X.prog) (w := X.w) (A := X.A.in1) (I.ok.hd hc) it a hai its.toArray
    have hi : i = its.toArray.size := by simp; omega
    exact wpAny_pyNext_enum_endD D he (by rw [← hi]; exact ⟨hit, (show s.heap.IsTuple a its.toArray from p)⟩) fun h' eb => ⟨rfl, I.turned (t' := s.toks) (fun b o hb q => eb b o hb q) f0 f1 f3 f4 f5⟩
  self := fun A i s Q E st h => let ⟨⟨_, he⟩, _⟩ := st; wpAny_pyIter_enum he h
/-! ### the source -/
def enumL (i : Int) : List D → List D
  | [] => []
  | x :: r => .tuple [.int i, x] :: enumL (i + 1) r
theorem enumL_length : ∀ (i : Int) (xs : List D), (enumL i xs).length = xs.length
  | _, [] => rfl
  | i, x :: r => by simp [enumL, enumL_length (i + 1) r]
theorem enumL_get : ∀ {k : Int} {xs : List D} {i : Nat} {d : D}, (enumL k xs)[i]? = some d → ∃ x, xs[i]? = some x ∧ d = .tuple [.int (k + (i : Nat)), x]
  | _, [], _, _, h => by simp [enumL] at h
  | k, x :: r, 0, d, h => by
    simp only [enumL, List.getElem?_cons_zero, Option.some.injEq] at h
    exact ⟨x, rfl, by rw [← h]; simp⟩
  | k, x :: r, i + 1, d, h => by
    simp only [enumL, List.getElem?_cons_succ] at h
    obtain ⟨y, h1, h2⟩ := enumL_get (k := k + 1) (xs := r) (i := i) h
    refine ⟨y, by simpa using h1, ?_⟩
    rw [h2]
    congr 3
    omega
def enumD : D → Option (List D)
  | .tuple xs => some (enumL 0 xs)
  | .list xs => some (enumL 0 xs)
  | _ => none
def fEnum (f : Fe) : Fa := fun δ => f δ >>= fun d => Rs.of (enumD d)
section
variable {K : PySem.W.Frag} {w : World} {H1 : Hp} {a : Addr} {xs : List V} {ds : List D}
theorem stp_enumT (h : SqT K H1 a xs) (hd : DaL K w H1 xs ds) : Stp K w (IteT K a) H1 (enumL 0 ds) where
  stop := fun i H' k hi => ⟨xs, k.sqT h, by rw [hd.length, ← hi, enumL_length]⟩
  go := fun i H' d k hi => by
    obtain ⟨x, hx, _⟩ := enumL_get hi
    obtain ⟨v, hv, _⟩ := hd.get hx
    exact ⟨xs, v, k.sqT h, hv⟩
  yld := fun i H' d x H'' k hi y => by
    obtain ⟨T, v, rfl, hT, rfl, f1⟩ := y
    obtain ⟨x, hx, rfl⟩ := enumL_get hi
    obtain ⟨v', hv, dv⟩ := hd.get hx
    have := f1 xs (k.sqT h)
    rw [hv] at this; cases this
    refine ⟨Ex.nw hT, .tup (.inl (.inl upd_same)) (.cons ?_ (.cons ((dv.kp k).ex (Ex.nw hT)) .nil))⟩
    rw [Int.zero_add]
    exact .int _
theorem stp_enumL {o : Obj} (h : H1 a = some (.frz o (.lst xs))) (hd : DaL K w H1 xs ds) : Stp K w (Ite K a) H1 (enumL 0 ds) where
  stop := fun i H' k hi => ⟨xs, .inl (.inr ⟨o, k.frz _ _ _ h⟩), by rw [hd.length, ← hi, enumL_length]; exact Nat.le_refl _⟩
  go := fun i H' d k hi => by
    obtain ⟨x, hx, _⟩ := enumL_get hi
    obtain ⟨v, hv, _⟩ := hd.get hx
    exact ⟨xs, v, .inl (.inr ⟨o, k.frz _ _ _ h⟩), hv⟩
  yld := fun i H' d x H'' k hi y => by
    obtain ⟨T, v, rfl, hT, rfl, f1⟩ := y
    obtain ⟨x, hx, rfl⟩ := enumL_get hi
    obtain ⟨v', hv, dv⟩ := hd.get hx
    have := f1 xs (.inl (.inr ⟨o, k.frz _ _ _ h⟩))
    rw [hv] at this; cases this
    refine ⟨Ex.nw hT, .tup (.inl (.inl upd_same)) (.cons ?_ (.cons ((dv.kp k).ex (Ex.nw hT)) .nil))⟩
    rw [Int.zero_add]
    exact .int _
end
section
variable {X : Cx} {R : Rl X.K X.w} {Ew : Ews} {e : Expr} {fa : Fe} {pos p1 : Pos}
theorem ei_enum {elts : List Expr} {kk : Nat} {tpos : Pos} (ha : PE X e (tE R Ew .da fa)) (hg : Gl X "enumerate") (hm : X.mg "enumerate" = none) (hs : starEach [e] X.env = [(false, eval e X.env)] := by rfl) :
    PI X (.Tuple elts kk tpos) (.Call (.Name "enumerate" p1) [e] [] pos) (tI R Ew (fEnum fa)) := by
  refine ⟨fun pins s σ H Rr I ⟨δ, p, q⟩ => ?_⟩
  refine Call_ (ld_blt I hg hm boot_enumerate (PyProof.Rows.callWith_type1 (PyProof.Rows.args_cons (thn (ha.run pins s σ H (fun v H1 => ∃ d ds, enumD d = some ds ∧ Da X.K X.w H1 v d ∧ Ex H H1 ∧ ∀ J H1, Ex H H1 → Stp X.K X.w J H1 ds → Rr J H1) I (tE_then p (Ex.rf H) q fun d v H1 p1 e1 _ r1 q1 => ?_)) fun u s1 ⟨v, H1, I1, r1, d, ds, hd, hda, e1, q1⟩ => PyProof.Rows.args_nil ?_) hs) hs rfl))
  · obtain ⟨ds, hds, q1⟩ := q1.of
    exact ⟨d, ds, hds, r1, e1, q1⟩
  · have fpo : ∀ b, b ∈ [s1.heap.objs.size + 1, s1.heap.objs.size] → FpOk X pins H1 b := fun b hb => by
      have e' : b = s1.heap.objs.size + 1 ∨ b = s1.heap.objs.size := by simpa using hb
      have hle : s1.heap.objs.size ≤ b := by
        rcases e' with z | z
        · rw [z]; exact Nat.le_add_right _ _
        · rw [z]; exact Nat.le_refl _
      exact I1.fpOk hle (I1.hok.fresh hle)
    cases hda with
    | lst h a =>
      cases hd
      cases r1
      obtain ⟨its, rv, p', hz⟩ := I1.list (.inl (.inr ⟨_, h⟩))
      refine call_enumerate_list p'.isList fun h' he hit hsz hk => wpAny_pyIter_enum he ?_
      have I2 : Inv X pins σ H1 { s1 with heap := h' } := I1.kept (t' := s1.toks) hk
      exact ⟨s1.heap.objs.size + 1, [s1.heap.objs.size + 1, s1.heap.objs.size], _, _, H1, rfl, I2, turn_enum _ (s1.heap.objs.size + 1) s1.heap.objs.size, ⟨⟨.none, he⟩, hit, Nat.succ_ne_self _⟩, fpo, q1 _ _ e1 (stp_enumL h a)⟩
    | tup h a =>
      rename_i ad xs dl
      cases hd
      cases r1
      obtain ⟨its, rv, p', hz⟩ := I1.tuple h
      have p2 : s1.heap.IsTuple ad its.toArray := p'
      have hlt : ad < s1.heap.objs.size := by obtain ⟨o, ho, _⟩ := id p2; exact Heap.lt_size ho
      refine enum_begins1 (begins_tuple ad its.toArray) p2 fun h' he hit hsz hk => wpAny_pyIter_enum he ?_
      have I2 : Inv X pins σ H1 { s1 with heap := h' } := I1.kept (t' := s1.toks) hk
      exact ⟨s1.heap.objs.size + 1, [s1.heap.objs.size + 1, s1.heap.objs.size], _, _, H1, rfl, I2, turn_enumT ad (s1.heap.objs.size + 1) s1.heap.objs.size (Nat.ne_of_lt hlt) (Nat.ne_of_lt (Nat.lt_succ_of_lt hlt)), ⟨⟨.none, he⟩, ⟨_, hit, rfl, rfl⟩, Nat.succ_ne_self _⟩, fpo, q1 _ _ e1 (stp_enumT h a)⟩
    | _ => cases hd
end
end Hm
/-! Hm25: list.index -/
namespace Hm
open PySem PySem.Spec PyProof.Rows L2 Ob PySem.SeqAt
def indexD : D → D → Option D
  | .list xs, d => if (okD 32 d && xs.all (okD 32) && fits xs.length) = true then (xs.findIdx? fun y => PyData.eqv y d).map fun j => .int (j : Nat) else none
  | _, _ => none
def lsOf : D → Option (List D)
  | .list xs => some xs
  | _ => none
theorem lsOf_some {d : D} {xs : List D} (h : lsOf d = some xs) : d = .list xs := by cases d <;> first | (cases h; rfl) | cases h
def fLs (f : Fe) : Fe := fun δ => f δ >>= fun d => Rs.of (lsOf d) >>= fun x => .ok (.list x)
theorem rd_at {h : Heap} {d : D} : ∀ {vs : List Value} {xs : List D} {as : List Addr}, ReadsAll h vs xs as → xs.all (okD 32) = true → ∀ (m : Nat) (hm : m < vs.length) (hx : m < xs.length), PyData.eqv (rdOf h vs[m]) d = PyData.eqv xs[m] d
  | _, _, _, .nil, _, m, hm, _ => by simp at hm
  | _, _, _, .cons r rs, hc, 0, _, _ => by
    rw [List.all_cons, Bool.and_eq_true] at hc
    simp only [List.getElem_cons_zero]
    rw [rdOf_eq hc.1 r]
  | _, _, _, .cons r rs, hc, m + 1, hm, hx => by
    rw [List.all_cons, Bool.and_eq_true] at hc
    simp only [List.getElem_cons_succ]
    exact rd_at rs hc.2 m (by simpa using hm) (by simpa using hx)
theorem reads_list {h : Heap} {u : Value} {ds : List D} {as : List Addr} (r : Reads h u (.list ds) as) : ∃ a o vs n bs, u = .ref a ∧ h.get? a = some o ∧ o.cls = .type "list" ∧ o.data = .seq vs n ∧ ReadsAll h vs.toList ds bs := by
  cases r with
  | list h1 h2 h3 h4 => exact ⟨_, _, _, _, _, rfl, h1, h2, h3, h4⟩
section
variable {X : Cx} {R : Rl X.K X.w} {Ew : Ews} {o e : Expr} {fo fe : Fe} {apos cpos : Pos}
theorem mt_indexH (hu : X.A.units + 64 < cLine) : MtR X "list.index" (fun x xs H Q => ∃ y d e j, xs = [y] ∧ Sn X.K X.w H x (.list d) ∧ Sn X.K X.w H y e ∧ indexD (.list d) e = some (.int (j : Int)) ∧ Q (.int j) H) := by
  intro pins s σ H x xs v us Q I rx rxs h
  obtain ⟨y, ds, d, j, rfl, hl, hy, hg, q⟩ := h
  replace hg : (if (okD 32 d && ds.all (okD 32) && fits ds.length) = true then (ds.findIdx? fun y => PyData.eqv y d).map fun j => PyData.int (j : Nat) else none) = some (.int j) := hg
  split at hg
  · rename_i hf
    rw [Bool.and_eq_true, Bool.and_eq_true] at hf
    cases hj : ds.findIdx? (fun y => PyData.eqv y d) with
    | none => rw [hj] at hg; cases hg
    | some jn =>
      rw [hj] at hg
      cases hg
      obtain ⟨uy, rfl, ry⟩ := vals1 rxs
      obtain ⟨bs, r1⟩ := hy.reads I ry
      obtain ⟨as, r2⟩ := hl.reads I rx
      obtain ⟨a, ⟨cls, dd, data, sls⟩, vs, n, cs, rfl, h1, h2, h3, h4⟩ := reads_list r2
      · simp only at h2 h3
        subst h2 h3
        have hlen := ReadsAll.len h4
        rw [List.findIdx?_eq_some_iff_getElem] at hj
        obtain ⟨hjl, hje, hjn⟩ := hj
        have hjs : jn < vs.size := by simp at hlen; omega
        have hfit := fits_le hf.2
        refine call_meets PySem.F.slot_list_index ⟨_, h1, rfl⟩ PySem.F.entry_list_index (PySem.F.args_list_index_2 _ _)
          (SeqAt.list_indexAt a vs n dd sls uy (fun u => PyData.eqv (rdOf s.heap u) d) jn hjs (by have := of_decide_eq_true (show decide (ds.length ≤ 16777216) = true from hf.2); omega) ?_ ?_) ⟨h1, items_at h4 r1 hf.1.2 hf.1.1 hu, ?_⟩
        · have := rd_at (d := d) h4 hf.1.2 jn (by simpa using hjs) hjl
          simp only [Array.getElem_toList] at this
          rw [this]; exact hje
        · intro m hm hmj
          have := rd_at (d := d) h4 hf.1.2 m (by simpa using hm) (by omega)
          simp only [Array.getElem_toList] at this
          rw [this]
          have := hjn m hmj
          simpa using this
        · exact ⟨.int _, H, I.tok _, ⟨_, rfl⟩, q⟩
  · cases hg
theorem ed_index (hu : X.A.units + 64 < cLine) (ho : PE X o (tE R Ew .sn fo)) (he : PE X e (tE R Ew .sn fe)) (hbase : attributeBase o "index" X.env (eval o X.env) = eval o X.env := by rfl)
    (hfew : ((backTo cpos (starEach [e] X.env)).all (fun x => !x.1) && (backToKw cpos (keywordEach [] X.env)).all (fun x => x.1.isSome) && decide ([e].length + ([] : List Keyword).length + (if ([] : List Keyword).isEmpty then 0 else 1) < 30)) = true := by rfl)
    (hline : (apos.endLine == cpos.line) = true := by rfl) (hs1 : starEach [e] X.env = (false, eval e X.env) :: starEach [] X.env := by rfl) (hplain : (backTo cpos (starEach [] X.env)).any (·.1) = false := by rfl) :
    PE X (.Call (.Attribute o "index" apos) [e] [] cpos) (tE R Ew .nw (fOp indexD (fLs fo) fe)) := by
  refine PE.imp (pe_bm PySem.F.plainAttrs_list PySem.F.slot_list_index PySem.F.type_list_index (mt_indexH hu) ho (pa_cons he pa_nil hs1) hbase hfew hline hs1 hplain) fun σ H Q ⟨δ, p, q⟩ => ?_
  have q' : Rk (fo δ >>= fun d => (Rs.of (lsOf d) >>= fun x => .ok (.list x)) >>= fun x => fe δ >>= fun y => Rs.of (indexD x y)) (EW Ew δ H) (fun d => ∀ v H', Ex H H' → Res X.K X.w .nw H H' v d → Q v H') := by
    have : fOp indexD (fLs fo) fe δ = (fo δ >>= fun d => (Rs.of (lsOf d) >>= fun x => .ok (.list x)) >>= fun x => fe δ >>= fun y => Rs.of (indexD x y)) := by
      unfold fOp fLs
      cases fo δ <;> rfl
    rw [← this]; exact q
  refine tE_then p (Ex.rf H) q' fun d v H1 p1 e1 _ r1 q1 => ?_
  obtain ⟨xs, hxs, q1⟩ := (Rk.bind (Rk.bind q1)).of
  cases lsOf_some hxs
  obtain ⟨b, vs, rfl, h1, h2⟩ := Sn.lst_ r1
  refine ⟨.inl ⟨rfl, vs, .inl h1⟩, ?_⟩
  refine tE_then p1 e1 q1 fun d2 v2 H2 p2 e2 e02 r2 q2 => ?_
  obtain ⟨r, hr, q2⟩ := q2.of
  have hrj : ∃ j : Nat, r = .int j := by
    replace hr : (if (okD 32 d2 && xs.all (okD 32) && fits xs.length) = true then (xs.findIdx? fun y => PyData.eqv y d2).map fun j => PyData.int (j : Nat) else none) = some r := hr
    split at hr
    · cases hj : xs.findIdx? (fun y => PyData.eqv y d2) with
      | none => rw [hj] at hr; cases hr
      | some j => rw [hj] at hr; cases hr; exact ⟨j, rfl⟩
    · cases hr
  obtain ⟨j, rfl⟩ := hrj
  exact ⟨v2, xs, d2, j, rfl, Sn.ex e2 r1, r2, hr, q2 _ H2 e02 (.int _)⟩
end
end Hm
/-! Hm26: a module's constants -/
namespace Hm
open PySem PySem.Spec PyProof.Rows L2 Ob PySem.SeqAt
/-- the name x of the module stands for the data d, for ever -/
def Gc (K : PySem.W.Frag) (w : World) (mg : Str → Option Value) (x : Str) (d : D) : Prop := ∃ (u : Value) (v : V), mg x = some u ∧ RelV v u ∧ ∀ H, Da K w H v d
/-- .. for a dict that the top has written and nothing changes -/
def Gd (K : PySem.W.Frag) (w : World) (mg : Str → Option Value) (x : Str) (kvs : List (D × D)) : Prop :=
  ∃ (a : Addr) (es : List DictEntry), mg x = some (.ref a) ∧ (∀ h : Heap, K.In h → DicAt a es h) ∧ (∀ H, DaE K w H es kvs) ∧ (kvs.map fun p => keyOf p.1).Nodup
section
variable {X : Cx} {R : Rl X.K X.w} {Ew : Ews} {b : Expr} {fb : Fe} {pos p1 : Pos} {x : Str}
theorem ed_gc {d : D} (c : Gc X.K X.w X.mg x d) (hg : Gl X x) (hd : (x == ("__debug__" : Str)) = false := by decide) : PE X (.Name x pos) (tE R Ew .da (fC d)) := by
  obtain ⟨u, v, hm, r, h⟩ := c
  exact PE.imp (pe_glob hg hm r hd) fun σ H Q ⟨δ, p, q⟩ => q v H (Ex.rf H) (h H)
def fKix (kvs : List (D × D)) (fb : Fe) : Fe := fun δ => fb δ >>= fun k => Rs.of (keyOf k) >>= fun n => Rs.of (dLook kvs n)
theorem ed_kix {kvs : List (D × D)} (hu : X.A.units + 64 < cLine) (c : Gd X.K X.w X.mg x kvs) (hg : Gl X x) (hb : PE X b (tE R Ew .sn fb)) (hs : PlainIx b) (hd : (x == ("__debug__" : Str)) = false := by decide) :
    PE X (.Subscript (.Name x p1) b pos) (tE R Ew .da (fKix kvs fb)) := by
  obtain ⟨a, es, hm, hdic, hda, hnd⟩ := c
  have hix : IxR X (fun y z H Q => ∃ e n r, y = .ref a ∧ Sn X.K X.w H z e ∧ keyOf e = some n ∧ dLook kvs n = some r ∧ ∀ v, Da X.K X.w H v r → Q v H) := by
    intro value slice pins s σ H x y v u Q I rx ry h hs
    obtain ⟨e, n, r, rfl, he, hk, hg, q⟩ := h
    cases rx
    obtain ⟨q1, q2⟩ := keyOf_some hk
    obtain ⟨ks, e1, hek⟩ := (hda H).ek I
    have hin : n ∈ ks := of_decide_eq_true (by rw [ks_mem e1]; exact dLook_has hg)
    obtain ⟨j, hj⟩ := List.mem_iff_getElem?.mp hin
    have hl := (List.getElem?_eq_some_iff.mp hj).1
    have hje : es[j]? = some (es[j]'(by have := hek.1; omega)) := List.getElem?_eq_getElem _
    obtain ⟨dk, z, zv, g1, g2, g3⟩ := (hda H).get hje
    have g4 := dLook_of_get hnd g1 (ks_at e1 hj g1)
    rw [hg] at g4
    cases g4
    have hD := hdic s.heap I.kIn
    refine PyProof.Rows.subscriptTail_builtinR (x := (es[j]'(by have := hek.1; omega)).val) hD.typeIs slot_dict_getitem.lookup (dgetItem (Q := fun r s' => r = (es[j]'(by have := hek.1; omega)).val ∧ EP X pins σ Q r s') (show X.A.units + 1 + 8 < cLine by omega) (he.nested I ry q1) q2 hD hek (ks_nodup e1 hnd) hin fun j' e' t hj' he' => ?_) hs
    have : j' = j := (List.getElem?_inj (List.getElem?_eq_some_iff.mp hj').1 (ks_nodup e1 hnd)).mp (hj'.trans hj.symm)
    subst this
    rw [hje] at he'
    cases he'
    exact ⟨rfl, zv, H, I.tok t, g2, q zv g3⟩
  refine PE.imp (pe_ix hix (pe_glob (v := .ref a) hg hm rfl hd) hb hs) fun σ H Q ⟨δ, p, q⟩ => ?_
  refine tE_then p (Ex.rf H) q fun ds vs H2 p2 e2 e02 r2 q2 => ?_
  obtain ⟨n, hn, q2⟩ := (Rk.bind q2).of
  obtain ⟨r, hr, q2⟩ := q2.of
  exact ⟨ds, n, r, rfl, r2, hn, hr, fun v n => q2 v H2 e02 n⟩
end
/-- a tuple of texts -/
theorem gc_strs {K : PySem.W.Frag} {w : World} {h : Heap} {mg : Str → Option Value} {x : Str} {a : Addr} {o : Obj} {its : Array Value} {n : Nat} {ys : List Str} (X : K.In h) (G : h.Ns mainGlobals mg) (e : PySem.W.nsIn K mainGlobals x = some (some (.ref a)))
    (l : K.lookup a = some o) (hc : o.cls = .type "tuple") (hd : o.data = .seq its n) (hz : its.size ≤ sizeLine) (hv : Vals (ys.map V.str) its.toList) : Gc K w mg x (.tuple (ys.map PyData.str)) := by
  refine ⟨.ref a, .ref a, PySem.W.mg_of X G e, rfl, fun H => .tup (.inr ⟨o, its, n, l, hc, hd, hz, hv⟩) ?_⟩
  clear hv
  induction ys with
  | nil => exact .nil
  | cons y r ih => exact .cons (.str y) ih
end Hm
/-! Hm28: unpacking of lists; min, max, ord, str; upper, split -/
namespace Hm
open PySem PySem.Spec PyProof.Rows L2 Ob PySem.SeqAt
/-! ### a, b = a list -/
def ftL (js : List Nat) : Ftg := fun d δ => match d with
  | .list ds => if ds.length = js.length then some (setAll δ js ds) else none
  | _ => none
def gUnS (js : List Nat) (f : Fe) : Fs := fun δ => So.of δ (fun d => match ftL js d δ with | some δ' => .nx δ' | none => .bad) (f δ)
theorem gs_unl {K : PySem.W.Frag} {w : World} {M : Addr → Prop} {H0 : Hp} {n : Nat} {js : List Nat} (hj : ∀ j ∈ js, j < n) : GdS K w M H0 n (gUnl K js.length (gNames js)) (ftL js) := by
  intro v d σ H δ Q hl p h δ' hf q
  unfold ftL at hf
  split at hf
  · split at hf
    · rename_i hlen
      cases hf
      cases h with
      | lst h1 h2 => exact ⟨_, _, rfl, .inl (.inr ⟨_, h1⟩), by rw [h2.length]; exact hlen, gs_names js _ _ σ H δ Q hj hl p h2 hlen q⟩
    · cases hf
  · cases hf
section
variable {X : Cx} {M : Addr → Prop} {H0 : Hp} {Ew : Ews} {e : Expr} {pos : Pos}
theorem es_unl {tg : Expr} {js : List Nat} {f : Fe} (hj : ∀ j ∈ js, j < X.N.length) (he : PE X e (tE (plainRl X.K X.w) Ew .da f)) (hg : PG X tg (gUnl X.K js.length (gNames js))) (hs : swapsWithSole [tg] e pos.line X.env = pure false := by rfl) (hw : swappedStores [tg] e X.env = pure none := by rfl)
    (h1 : (assignEach [tg] X.env).map (·.2) = [assign tg X.env] := by rfl) : PS X (.Assign [tg] e pos) (tS M H0 Ew X.K X.w (gUnS js f)) := by
  refine PS.impI (ps_asg he hg hs hw h1) fun pins s D σ H I ⟨δ, h, q⟩ => ?_
  refine tE_st h q fun d v H1 h1 e1 r1 q1 => ?_
  cases hf : ftL js d δ with
  | none => rw [hf] at q1; exact q1.elim
  | some δ' =>
    rw [hf] at q1
    refine gs_unl hj v d σ H1 δ _ I.len h1 r1 δ' hf fun σ' hl' h' => ?_
    exact q1 σ' H1 h' (Kp.refl _) (by rw [hl', I.len])
end
/-! ### calls -/
def minD : D → D → Option D
  | .int i, .int j => some (.int (if j < i then j else i))
  | _, _ => none
def max2D : D → D → Option D
  | .int i, .int j => some (.int (if j > i then j else i))
  | _, _ => none
def ordD : D → Option D
  | .str x => if x.length = 1 then some (.int (x.cps.getD 0 0 : Nat)) else none
  | _ => none
def strD : D → Option D
  | .int i => if i.natAbs.log2 < 1920 then some (.str (toString i)) else none
  | _ => none
section
variable {X : Cx}
theorem cd_min2 (hc : X.calm = true) : CallD X (.builtin "min") (g2 minD) := by
  intro pins s σ H xs us Q I r h
  obtain ⟨ds, d, hs, hg, q⟩ := h
  match ds, hg with
  | [d1, d2], hg =>
    obtain ⟨v, u, rfl, h1, h2⟩ := hs.two
    have hg : minD d1 d2 = some d := hg
    unfold minD at hg
    split at hg
    · cases hg; cases h1.int_; cases h2.int_
      exact call_min2 hc pins s σ H _ us _ I r ⟨_, _, rfl, q _ _ (Ex.rf H) (.int _)⟩
    · cases hg
theorem cd_max2 (hc : X.calm = true) : CallD X (.builtin "max") (g2 max2D) := by
  intro pins s σ H xs us Q I r h
  obtain ⟨ds, d, hs, hg, q⟩ := h
  match ds, hg with
  | [d1, d2], hg =>
    obtain ⟨v, u, rfl, h1, h2⟩ := hs.two
    have hg : max2D d1 d2 = some d := hg
    unfold max2D at hg
    split at hg
    · cases hg; cases h1.int_; cases h2.int_
      exact call_max2 hc pins s σ H _ us _ I r ⟨_, _, rfl, q _ _ (Ex.rf H) (.int _)⟩
    · cases hg
theorem cd_ord : CallD X (.builtin "ord") (g1 ordD) := by
  intro pins s σ H xs us Q I r h
  obtain ⟨ds, d, hs, hg, q⟩ := h
  match ds, hg with
  | [d1], hg =>
    obtain ⟨v, rfl, h1⟩ := hs.one
    have hg : ordD d1 = some d := hg
    unfold ordD at hg
    split at hg
    · split at hg
      · rename_i hz
        cases hg; cases h1.str_
        exact call_ord pins s σ H _ us _ I r ⟨_, rfl, hz, q _ _ (Ex.rf H) (.int _)⟩
      · cases hg
    · cases hg
theorem cd_str : CallD X (.type "str") (g1 strD) := by
  intro pins s σ H xs us Q I r h
  obtain ⟨ds, d, hs, hg, q⟩ := h
  match ds, hg with
  | [d1], hg =>
    obtain ⟨v, rfl, h1⟩ := hs.one
    have hg : strD d1 = some d := hg
    unfold strD at hg
    split at hg
    · split at hg
      · rename_i hz
        cases hg; cases h1.int_
        exact call_str_int pins s σ H _ us _ I r ⟨_, rfl, hz, q _ _ (Ex.rf H) (.str _)⟩
      · cases hg
    · cases hg
end
/-! ### methods of texts -/
def upD : D → Option D
  | .str x => if x.length ≤ 1000000 then some (.str (Txt.upper x)) else none
  | _ => none
def fUp (f : Fe) : Fe := fun δ => f δ >>= fun d => Rs.of (upD d)
def splD : D → D → Option D
  | .str x, .str y => if (!(y.length == 0) && fits (x.length + 2)) = true then some (.list ((Txt.split x y).map PyData.str)) else none
  | _, _ => none
def splMD (k : Int) : D → D → Option D
  | .str x, .str y => if (!(y.length == 0) && fits (x.length + 2)) = true then some (.list ((Txt.splitMax x y k).map PyData.str)) else none
  | _, _ => none
theorem daStrs {K : PySem.W.Frag} {w : World} {H : Hp} : ∀ ys : List Str, DaL K w H (ys.map V.str) (ys.map PyData.str)
  | [] => .nil
  | y :: r => .cons (.str y) (daStrs r)
section
variable {X : Cx} {R : Rl X.K X.w} {Ew : Ews} {o e : Expr} {fo fe : Fe} {pos apos : Pos}
theorem ed_upper (ho : PE X o (tE R Ew .sn fo)) (hbase : attributeBase o "upper" X.env (eval o X.env) = eval o X.env := by rfl) (hline : (apos.endLine == pos.line) = true := by rfl) :
    PE X (.Call (.Attribute o "upper" apos) [] [] pos) (tE R Ew .nw (fUp fo)) := by
  refine PE.imp (pe_upper ho hbase hline) fun σ H Q ⟨δ, p, q⟩ => ?_
  refine tE_then p (Ex.rf H) q fun d v H1 p1 e1 _ r1 q1 => ?_
  obtain ⟨r, hr, q1⟩ := q1.of
  unfold upD at hr
  split at hr
  · split at hr
    · rename_i hz
      cases hr
      cases Sn.str_ r1
      exact ⟨⟨_, rfl⟩, _, rfl, rfl, by omega, q1 _ H1 e1 (.str _)⟩
    · cases hr
  · cases hr
theorem ed_split (ho : PE X o (tE R Ew .sn fo)) (he : PE X e (tE R Ew .sn fe)) (hs : starEach [e] X.env = [(false, eval e X.env)] := by rfl) (hbase : attributeBase o "split" X.env (eval o X.env) = eval o X.env := by rfl) (hline : (apos.endLine == pos.line) = true := by rfl) :
    PE X (.Call (.Attribute o "split" apos) [e] [] pos) (tE R Ew .nw (fOp splD (fStr fo) fe)) := by
  refine PE.imp (pe_split ho he hs hbase hline) fun σ H Q ⟨δ, p, q⟩ => ?_
  have q' : Rk (fo δ >>= fun d => (Rs.of (strOf d) >>= fun x => .ok (.str x)) >>= fun x => fe δ >>= fun y => Rs.of (splD x y)) (EW Ew δ H) (fun d => ∀ v H', Ex H H' → Res X.K X.w .nw H H' v d → Q v H') := by
    have : fOp splD (fStr fo) fe δ = (fo δ >>= fun d => (Rs.of (strOf d) >>= fun x => .ok (.str x)) >>= fun x => fe δ >>= fun y => Rs.of (splD x y)) := by
      unfold fOp fStr
      cases fo δ <;> rfl
    rw [← this]; exact q
  refine tE_then p (Ex.rf H) q' fun d v H1 p1 e1 _ r1 q1 => ?_
  obtain ⟨a, ha, q1⟩ := (Rk.bind (Rk.bind q1)).of
  cases strOf_some ha
  cases Sn.str_ r1
  refine ⟨⟨a, rfl⟩, ?_⟩
  refine tE_then p1 e1 q1 fun d2 v2 H2 p2 e2 e02 r2 q2 => ?_
  obtain ⟨r, hr, q2⟩ := q2.of
  unfold splD at hr
  split at hr
  · rename_i x y a' b' hx
    cases hx
    split at hr
    · rename_i hf
      rw [Bool.and_eq_true, Bool.not_eq_true'] at hf
      cases hr
      cases Sn.str_ r2
      refine ⟨a, _, rfl, rfl, hf.1, fits_le hf.2, fun t ht => ?_⟩
      exact q2 _ _ (e02.tr (Ex.nw ht)) (.lst (e02.fresh ht) upd_same ((daStrs _).ex (Ex.nw ht)))
    · cases hr
  · cases hr
end
end Hm
/-! Hm29: a list of ours that is not written any more: locked, ahead of a statement -/
namespace Hm
open PySem PySem.Spec PyProof.Rows L2 Ob PySem.SeqAt
def gFrz (i : Nat) : Fs := fun δ => match δ[i]? with
  | some (.own (.list ds)) => .nx (δ.set i (.dat (.list ds)))
  | some (.own (.dict kvs)) => .nx (δ.set i (.dat (.dict kvs)))
  | some (.dat _) => .nx δ
  | _ => .bad
section
variable {X : Cx} {M : Addr → Prop} {H0 : Hp} {Ew : Ews} {rest : List Stmt}
theorem es_frz {i : Nat} {g : Fs} (hN : i < X.N.length) (h : PSs X rest (tS M H0 Ew X.K X.w g)) : PSs X rest (tS M H0 Ew X.K X.w (gSeq (gFrz i) g)) := by
  refine ⟨fun pins s σ H D I ⟨δ, hs, q⟩ => ?_⟩
  have hil : i < σ.length := by rw [I.len]; exact hN
  unfold gSeq gFrz at q
  cases hi : δ[i]? with
  | none => rw [hi] at q; exact q.elim
  | some sl =>
    rw [hi] at q
    cases sl with
    | dat d => exact h.run pins s σ H D I ⟨δ, hs, q⟩
    | own d =>
      cases d with
      | list ds =>
        obtain ⟨a, xs, h1, h2, h3⟩ := hs.ownL hi
        obtain ⟨o, I2⟩ := Inv.frz I h2 (by trivial)
        have hk := frz_kp (o := o) h2 (by trivial)
        have hd := hs.dropS hi hk (fun b hb => upd_ne hb) fun fq hq => by
          rw [h1] at hq
          obtain ⟨a', e', e2, _⟩ := hq
          cases e'
          rw [e2]; simp
        have hx := hd.setDat (i := i) (v := .ref a) hil (.lst upd_same (h3.kp hk))
        rw [List.set_set, set_same h1] at hx
        exact h.run pins s σ _ D I2 ⟨_, hx, Sk.mono hk q⟩
      | dict kvs =>
        obtain ⟨a, xs, h1, h2, h3, h4⟩ := hs.ownD hi
        obtain ⟨o, I2⟩ := Inv.frz I h2 (by trivial)
        have hk := frz_kp (o := o) h2 (by trivial)
        have hd := hs.dropS hi hk (fun b hb => upd_ne hb) fun fq hq => by
          rw [h1] at hq
          obtain ⟨a', e', e2, _⟩ := hq
          cases e'
          rw [e2]; simp
        have hx := hd.setDat (i := i) (v := .ref a) hil (.dic upd_same (h3.kp hk) h4)
        rw [List.set_set, set_same h1] at hx
        exact h.run pins s σ _ D I2 ⟨_, hx, Sk.mono hk q⟩
      | _ => exact q.elim
    | _ => exact q.elim
/-! ### a, b, c = e, f, g -/
def gPar3 (i j l : Nat) (f g k : Fe) : Fs := fun δ => So.of δ (fun d => So.of δ (fun d' => So.of δ (fun d'' => .nx (((δ.set i (.dat d)).set j (.dat d')).set l (.dat d''))) (k δ)) (g δ)) (f δ)
end
end Hm
set_option maxHeartbeats 1000000
/-! Hm30: zip of a list and a tuple -/
namespace Hm
open PySem PySem.Spec PyProof.Rows L2 Ob PySem.SeqAt
/-- the list at a, the tuple at b, by turns -/
def Itm (K : PySem.W.Frag) (a b : Addr) : It :=
  ⟨fun j G => ∃ (us ws : List V) (p q : V), SqL K G a us ∧ SqT K G b ws ∧ us[j]? = some p ∧ ws[j]? = some q,
    fun j G v G' => ∃ r p q, v = .ref r ∧ G r = none ∧ G' = upd G r (.tup [p, q]) ∧ (∀ us, SqL K G a us → us[j]? = some p) ∧ ∀ ws, SqT K G b ws → ws[j]? = some q,
    fun j G => ∃ us ws : List V, SqL K G a us ∧ SqT K G b ws ∧ (us.length ≤ j ∨ ws.length ≤ j)⟩
/-- the five objects of such a zip -/
def MzSt (c ti tt m1 m2 a b : Addr) (j : Nat) (h : Heap) : Prop := IsZip h c ti tt .none ∧ IsPair h ti (.ref m1) (.ref m2) ∧ (∃ x y, IsPair h tt x y) ∧ h.IsListIter m1 a j ∧ h.IsTupleIter m2 b j
theorem msep {c ti tt m1 m2 a b : Addr} (A : ZipApart c ti tt m1 m2 a b) : ZipSep2 c ti tt m1 m2 [m1, a] [m2, b] where
  TIz := A.TIz
  TOz := A.TOz
  TITO := A.TITO
  TIi1 := A.TIi1
  mem1 := by simp
  zf1 := by simp only [List.mem_cons, List.not_mem_nil, or_false, not_or]; exact ⟨A.i1z.symm, A.l1z.symm⟩
  Tf1 := by simp only [List.mem_cons, List.not_mem_nil, or_false, not_or]; exact ⟨A.TOi1, A.l1TO.symm⟩
  TIi2 := A.TIi2
  mem2 := by simp
  zf2 := by simp only [List.mem_cons, List.not_mem_nil, or_false, not_or]; exact ⟨A.i2z.symm, A.l2z.symm⟩
  Tf2 := by simp only [List.mem_cons, List.not_mem_nil, or_false, not_or]; exact ⟨A.TOi2, A.l2TO.symm⟩
  sep1_2 := by simp only [List.mem_cons, List.not_mem_nil, or_false, not_or]; exact ⟨A.i12, A.l2i1.symm⟩
  sep2_1 := by simp only [List.mem_cons, List.not_mem_nil, or_false, not_or]; exact ⟨A.i12.symm, A.l1i2.symm⟩
/-- an iterator that has come to its end -/
theorem endL {prog : Program} {w : World} {A : Around} (hh : A.handled = none) (it l : Addr) (items : Array Value) (j : Nat) (he : items[j]? = none) : Draws prog w A it [it, l] j (fun _ _ => True) (fun n h => n = j ∧ h.IsListIter it l j ∧ h.IsList l items) where
  live := fun _ _ st => let ⟨o, ho, _⟩ := st.2.1; ⟨o, ho⟩
  frame := fun _ _ _ st hk => ⟨st.1, st.2.1.at fun o e => hk it (by simp) o e, st.2.2.at fun o e => hk l (by simp) o e⟩
  item := fun i s Q E hi st _ => absurd st.1 (Nat.ne_of_lt hi)
  done := fun s Q E st hE => wpAny_nextOf_list_end hh st.2.1 st.2.2 he hE
theorem endT {prog : Program} {w : World} {A : Around} (hh : A.handled = none) (it l : Addr) (items : Array Value) (j : Nat) (he : items[j]? = none) : Draws prog w A it [it, l] j (fun _ _ => True) (fun n h => n = j ∧ h.IsTupleIter it l j ∧ h.IsTuple l items) where
  live := fun _ _ st => let ⟨o, ho, _⟩ := st.2.1; ⟨o, ho⟩
  frame := fun _ _ _ st hk => ⟨st.1, st.2.1.at fun o e => hk it (by simp) o e, st.2.2.at fun o e => hk l (by simp) o e⟩
  item := fun i s Q E hi st _ => absurd st.1 (Nat.ne_of_lt hi)
  done := fun s Q E st hE => wpAny_nextOf_tuple_end hh st.2.1 st.2.2 he hE
theorem five {c ti tt m1 m2 x : Addr} (h : x ∈ [c, ti, tt, m1, m2]) : x = c ∨ x = ti ∨ x = tt ∨ x = m1 ∨ x = m2 := by simpa using h
theorem MzSt.lt {c ti tt m1 m2 a b : Addr} {j : Nat} {h : Heap} (st : MzSt c ti tt m1 m2 a b j h) {x : Addr} (hx : x ∈ [c, ti, tt, m1, m2]) : ∃ o, h.get? x = some o ∧ ∀ v, o.data ≠ .cell v := by
  obtain ⟨s1, s2, ⟨p, q, s3⟩, ⟨o1, e1, _, d1⟩, ⟨o2, e2, _, d2⟩⟩ := st
  rcases five hx with rfl | rfl | rfl | rfl | rfl
  · exact ⟨_, s1, fun v z => nomatch z⟩
  · exact ⟨_, s2, fun v z => nomatch z⟩
  · exact ⟨_, s3, fun v z => nomatch z⟩
  · exact ⟨o1, e1, fun v z => by rw [d1] at z; cases z⟩
  · exact ⟨o2, e2, fun v z => by rw [d2] at z; cases z⟩
theorem turn_zipM {P : Program} {w : World} {K : PySem.W.Frag} {elts : List Expr} {kk : Nat} {tpos : Pos} {a b c ti tt m1 m2 : Addr} (A : ZipApart c ti tt m1 m2 a b) :
    Turn P w K (.Tuple elts kk tpos) (Itm K a b) [c, ti, tt, m1, m2] c (MzSt c ti tt m1 m2 a b) where
  mem := by simp
  obj := fun i h st x hx => by
    obtain ⟨o, e, d⟩ := st.lt hx
    exact ⟨o, e, d⟩
  keep := fun i h h' ⟨s1, s2, ⟨p, q, s3⟩, s4, s5⟩ k => ⟨k c (by simp) _ s1, k ti (by simp) _ s2, ⟨p, q, k tt (by simp) _ s3⟩, s4.at fun o e => k m1 (by simp) o e, s5.at fun o e => k m2 (by simp) o e⟩
  item := by
    intro X hP hw hK hc j pins s σ G E I hf st hg
    subst hP hw hK
    have hlt := fun x hx => let ⟨o, e, _⟩ := st.lt (x := x) hx; Heap.lt_size e
    obtain ⟨s1, s2, ⟨p0, q0, s3⟩, s4, s5⟩ := st
    obtain ⟨us, ws, p, q, hu, hv, gu, gv⟩ := hg
    obtain ⟨its, r1, w1, _⟩ := I.list hu
    obtain ⟨jts, r2, w2, _⟩ := I.tuple hv
    obtain ⟨e1, k1, v1⟩ := r1.get gu
    obtain ⟨e2, k2, v2⟩ := r2.get gv
    have n1 : j < its.toArray.size := by have := (List.getElem?_eq_some_iff.mp k1).1; simpa using this
    have n2 : j < jts.toArray.size := by have := (List.getElem?_eq_some_iff.mp k2).1; simpa using this
    have hh := I.ok.hd hc
    refine wpAny_pyNext_zipD2_item (msep A) (Draws.list (A := X.A.in1) hh m1 a A.l1i1 its.toArray) (Draws.tuple (A := X.A.in1) hh m2 b A.l2i2 jts.toArray) s1 s2 s3 ⟨s4, w1.isList⟩ ⟨s5, w2⟩ n1 n2 fun y1 y2 h' tk g1 g2 z1 z3 z4 z5 zT zs zk => ?_
    have q1 : y1 = e1 := by
      have : its.toArray[j]? = some e1 := by simpa using k1
      rw [this] at g1; exact (Option.some.inj g1).symm
    have q2 : y2 = e2 := by
      have : jts.toArray[j]? = some e2 := by simpa using k2
      rw [this] at g2; exact (Option.some.inj g2).symm
    subst q1 q2
    refine ⟨_, rfl, wpAny_letOwnedTupleGo_zip (s := { s with heap := h', toks := tk }) z1 fun h2 z2 sb => ?_⟩
    have ne : c ≠ s.heap.objs.size := Nat.ne_of_lt (hlt c (by simp))
    have hT2 : h2.get? s.heap.objs.size = some { cls := .type "tuple", data := .seq #[y1, y2] } := (sb.2 _ ne.symm).trans zT
    have nw : ObjOk X.prog X.w (upd G s.heap.objs.size (.tup [p, q])) h2 s.heap.objs.size (.tup [p, q]) := ⟨by show 2 ≤ sizeLine; decide, [y1, y2], .cons v1 (.cons v2 .nil), _, hT2, rfl, _, rfl⟩
    have ks : ∀ x o, x ∉ [c, ti, tt, m1, m2] → s.heap.get? x = some o → h2.get? x = some o := fun x o hx e => by
      simp only [List.mem_cons, List.not_mem_nil, or_false, not_or] at hx
      exact (sb.2 x hx.1).trans (zk x o hx.1 hx.2.2.1 hx.2.2.2.1 hx.2.2.2.2 e)
    have J := I.turnedNew (t' := tk) (ch := [c, ti, tt, m1, m2]) ks hf (Nat.le_refl _) nw
    refine ⟨.ref s.heap.objs.size, _, J, rfl, ⟨_, p, q, rfl, I.hok.fresh (Nat.le_refl _), rfl, fun l hl => ?_, fun l hl => ?_⟩, ⟨z2, ?_, ⟨y1, y2, ?_⟩, ?_, ?_⟩, fun x hx => ?_⟩
    · rw [I.list_inj hl hu]; exact gu
    · rw [I.tuple_inj hl hv]; exact gv
    · exact (sb.2 _ A.TIz).trans (zk _ _ A.TIz A.TITO A.TIi1 A.TIi2 s2)
    · exact (sb.2 _ A.TOz).trans z3
    · exact z4.1.at fun o e => (sb.2 _ A.i1z).trans e
    · exact z5.1.at fun o e => (sb.2 _ A.i2z).trans e
    · rw [upd_ne (Nat.ne_of_lt (hlt x hx))]; exact (hf x hx).1
  done := by
    intro X hP hw hK hc j pins s σ G E I hf st hg
    subst hP hw hK
    obtain ⟨s1, s2, ⟨p0, q0, s3⟩, s4, s5⟩ := st
    obtain ⟨us, ws, hu, hv, ge⟩ := hg
    obtain ⟨its, r1, w1, _⟩ := I.list hu
    obtain ⟨jts, r2, w2, _⟩ := I.tuple hv
    have l1 := r1.length
    have l2 := r2.length
    have hh := I.ok.hd hc
    have fin : ∀ (h' : Heap) (tk : Nat), (∀ x o, x ≠ c → x ≠ tt → x ≠ m1 → x ≠ m2 → s.heap.get? x = some o → h'.get? x = some o) → (none : Option Value) = none ∧ Inv X pins σ G { s with heap := h', toks := tk } := fun h' tk hk =>
      ⟨rfl, I.turnedL (t' := tk) (ch := [c, ti, tt, m1, m2]) (fun x o hb e => by
        simp only [List.mem_cons, List.not_mem_nil, or_false, not_or] at hb
        exact hk x o hb.1 hb.2.2.1 hb.2.2.2.1 hb.2.2.2.2 e) hf⟩
    by_cases hl : j < its.toArray.size
    · have he : jts.toArray[j]? = none := by
        rcases ge with z | z
        · simp at hl; omega
        · simp; omega
      exact wpAny_pyNext_zipD2_end (msep A) (Draws.list (A := X.A.in1) hh m1 a A.l1i1 its.toArray) (endT (A := X.A.in1) hh m2 b jts.toArray j he) s1 s2 s3 ⟨s4, w1.isList⟩ ⟨rfl, s5, w2⟩ (Nat.le_of_lt hl) (Nat.le_refl _) (.inr rfl) fin
    · have he : its.toArray[j]? = none := by simpa using hl
      by_cases hl2 : j < jts.toArray.size
      · exact wpAny_pyNext_zipD2_end (msep A) (endL (A := X.A.in1) hh m1 a its.toArray j he) (Draws.tuple (A := X.A.in1) hh m2 b A.l2i2 jts.toArray) s1 s2 s3 ⟨rfl, s4, w1.isList⟩ ⟨s5, w2⟩ (Nat.le_refl _) (Nat.le_of_lt hl2) (.inl rfl) fin
      · have he2 : jts.toArray[j]? = none := by simpa using hl2
        exact wpAny_pyNext_zipD2_end (msep A) (endL (A := X.A.in1) hh m1 a its.toArray j he) (endT (A := X.A.in1) hh m2 b jts.toArray j he2) s1 s2 s3 ⟨rfl, s4, w1.isList⟩ ⟨rfl, s5, w2⟩ (Nat.le_refl _) (Nat.le_refl _) (.inl rfl) fin
  self := fun _ _ _ _ _ st h => wpAny_pyIter_zip st.1 h
/-! ### the zip is made -/
abbrev mH1 (h : Heap) (a : Addr) : Heap := h.push { cls := .type "list_iterator", data := .fields #[.ref a, .int 0 0] }
abbrev mH2 (h : Heap) (a b : Addr) : Heap := (mH1 h a).push { cls := .type "tuple_iterator", data := .fields #[.ref b, .int 0 0] }
abbrev mH3 (h : Heap) (a b : Addr) : Heap := (mH2 h a b).push { cls := .type "tuple", data := .seq #[.ref h.objs.size, .ref (mH1 h a).objs.size] }
abbrev mH4 (h : Heap) (a b : Addr) : Heap := (mH3 h a b).push { cls := .type "tuple", data := .seq #[.none, .none] }
abbrev mH5 (h : Heap) (a b : Addr) : Heap := (mH4 h a b).push { cls := .type "zip", data := .fields #[.none, .bool false, .bool false, .ref (mH2 h a b).objs.size, .ref (mH3 h a b).objs.size] }
theorem meets_zipM (a b : Addr) (xs ys : Array Value) : Meets (Builtin.«zip.__new__» ⟨[.type "zip", .ref a, .ref b], []⟩) (fun _ R s => s.heap.IsList a xs ∧ s.heap.IsTuple b ys ∧ R (.ok (.ret (.ref (mH4 s.heap a b).objs.size))) { s with heap := mH5 s.heap a b }) :=
  .of_wp fun prog w A R s h => by
    obtain ⟨hp, g, d, tk, os⟩ := s
    obtain ⟨i1, i2, h⟩ := h
    have hsub := sub_zip
    have j1 : Heap.IsList (Shared.heap ⟨hp, g, d, tk, os⟩) a xs := i1
    have j2 : Heap.IsTuple (Shared.heap ⟨mH1 hp a, g, d, tk, os⟩) b ys := Heap.IsTuple.push i2 _
    wp_walk using wpAny_pyIter_list j1, wpAny_pyIter_tuple j2
    exact ⟨_, rfl, h⟩
theorem call_zipM {prog : Program} {w : World} {A : Around} {E : Value → Shared → Prop} {s : Shared} {a b : Addr} {xs ys : Array Value} {Q : Value → Shared → Prop} (i1 : s.heap.IsList a xs) (i2 : s.heap.IsTuple b ys)
    (h : ∀ h', MzSt (s.heap.objs.size + 4) (s.heap.objs.size + 2) (s.heap.objs.size + 3) s.heap.objs.size (s.heap.objs.size + 1) a b 0 h' → (∀ c o, s.heap.get? c = some o → h'.get? c = some o) → Q (.ref (s.heap.objs.size + 4)) { s with heap := h' }) :
    wpAny (model prog w) A (call (.type "zip") [.ref a, .ref b]) Q E s := by
  refine callType_new PySem.F.called_zip (by decide) (PySem.F.typeCall_zip_2 _ _) (PySem.F.newCall_zip_2 _ _) (fun ob => PySem.F.args_object_init_3 ob _ _) PySem.F.entry_zip_new (meets_zipM a b xs ys) ⟨i1, i2, ?_⟩
  have n1 : (mH1 s.heap a).objs.size = s.heap.objs.size + 1 := Heap.size_push ..
  have n2 : (mH2 s.heap a b).objs.size = s.heap.objs.size + 2 := by rw [Heap.size_push, n1]
  have n3 : (mH3 s.heap a b).objs.size = s.heap.objs.size + 3 := by rw [Heap.size_push, n2]
  have n4 : (mH4 s.heap a b).objs.size = s.heap.objs.size + 4 := by rw [Heap.size_push, n3]
  have at5 : (mH5 s.heap a b).get? (mH4 s.heap a b).objs.size = some _ := Heap.get?_push_size _ rfl
  have at4 : (mH5 s.heap a b).get? (mH3 s.heap a b).objs.size = some _ := Heap.get?_push_of_some _ (Heap.get?_push_size _ rfl)
  have at3 : (mH5 s.heap a b).get? (mH2 s.heap a b).objs.size = some _ := Heap.get?_push_of_some _ (Heap.get?_push_of_some _ (Heap.get?_push_size _ rfl))
  have at2 : (mH5 s.heap a b).get? (mH1 s.heap a).objs.size = some _ := Heap.get?_push_of_some _ (Heap.get?_push_of_some _ (Heap.get?_push_of_some _ (Heap.get?_push_size _ rfl)))
  have at1 : (mH5 s.heap a b).get? s.heap.objs.size = some _ := Heap.get?_push_of_some _ (Heap.get?_push_of_some _ (Heap.get?_push_of_some _ (Heap.get?_push_of_some _ (Heap.get?_push_size _ rfl))))
  show _ ∧ _
  rw [n2, n3, n4] at at5
  rw [n1, n2] at at3
  rw [n3] at at4
  rw [n1] at at2
  rw [n4]
  exact ⟨⟨_, at5, rfl⟩, h _ ⟨at5, at3, ⟨_, _, at4⟩, ⟨_, at1, rfl, rfl⟩, ⟨_, at2, rfl, rfl⟩⟩ fun c o e => Heap.get?_push_of_some _ (Heap.get?_push_of_some _ (Heap.get?_push_of_some _ (Heap.get?_push_of_some _ (Heap.get?_push_of_some _ e))))⟩
def iZipM (K : PySem.W.Frag) (ta : TA) : TI := fun σ H R => ta σ H fun vs H1 => ∃ a b xs ys, vs = [.ref a, .ref b] ∧ SqL K H1 a xs ∧ SqT K H1 b ys ∧ R (Itm K a b) H1
theorem pi_zipM {X : Cx} {e e2 : Expr} {ta : TA} {p pos tpos : Pos} {elts : List Expr} {kk : Nat} (hg : Gl X "zip") (hm : X.mg "zip" = none) (ha : PA X [e, e2] ta)
    (hs : starEach [e, e2] X.env = (false, eval e X.env) :: starEach [e2] X.env := by rfl) (hpl : (backTo pos (starEach [e2] X.env)).any (·.1) = false := by rfl) :
    PI X (.Tuple elts kk tpos) (.Call (.Name "zip" p) [e, e2] [] pos) (iZipM X.K ta) := by
  refine ⟨fun pins s σ H R I h => Call_ (ld_blt I hg hm PyProof.Rows.boot_zip (PyProof.Rows.callWith_type1 (thn (ha.run pos pins s σ H _ I h) fun us s1 ⟨vs, H1, I1, r1, q1⟩ => ?_) hs hpl))⟩
  obtain ⟨a, b, xs, ys, ev, hu, hv, q⟩ := q1
  subst ev
  obtain ⟨y1, y2, rfl, t1, t2⟩ := vals2 r1
  cases t1
  cases t2
  obtain ⟨its, rv, w1, _⟩ := I1.list hu
  obtain ⟨jts, rw2, w2, _⟩ := I1.tuple hv
  have la : a < s1.heap.objs.size := w1.lt
  have lb : b < s1.heap.objs.size := let ⟨o, ho, _⟩ := w2; Heap.lt_size ho
  refine call_zipM w1.isList (show s1.heap.IsTuple b jts.toArray from w2) fun h' st hk => wpAny_pyIter_zip st.1 ?_
  have J : Inv X pins σ H1 { s1 with heap := h' } := I1.kept (t' := s1.toks) hk
  refine ⟨s1.heap.objs.size + 4, [s1.heap.objs.size + 4, s1.heap.objs.size + 2, s1.heap.objs.size + 3, s1.heap.objs.size, s1.heap.objs.size + 1], _, _, H1, rfl, J, turn_zipM (PySem.W.ktu_apart s1.heap.objs.size a b la lb), st, fun x hx => ?_, q⟩
  have hle : s1.heap.objs.size ≤ x := by rcases five hx with rfl | rfl | rfl | rfl | rfl <;> omega
  exact I1.fpOk hle (I1.hok.fresh hle)
/-! ### in plain -/
def zipMD : D → D → Option (List D)
  | .list xs, .tuple ys => some (zipL xs ys)
  | _, _ => none
def fZipM (fa fb : Fe) : Fa := fun δ => fa δ >>= fun d => fb δ >>= fun d' => Rs.of (zipMD d d')
theorem stp_zipM {K : PySem.W.Frag} {w : World} {H1 : Hp} {a b : Addr} {xs ys : List V} {ds es : List D} {o : Obj} (h : H1 a = some (.frz o (.lst xs))) (hd : DaL K w H1 xs ds) (h' : SqT K H1 b ys) (hd' : DaL K w H1 ys es) : Stp K w (Itm K a b) H1 (zipL ds es) where
  stop := fun i H' k hi => ⟨xs, ys, .inl (.inr ⟨o, k.frz _ _ _ h⟩), k.sqT h', by
    rw [zipL_length] at hi
    have := hd.length; have := hd'.length
    omega⟩
  go := fun i H' d k hi => by
    obtain ⟨x, y, hx, hy, rfl⟩ := zipL_get hi
    obtain ⟨v, hv, _⟩ := hd.get hx
    obtain ⟨u, hu, _⟩ := hd'.get hy
    exact ⟨xs, ys, v, u, .inl (.inr ⟨o, k.frz _ _ _ h⟩), k.sqT h', hv, hu⟩
  yld := fun i H' d x H'' k hi y => by
    obtain ⟨T, v, u, rfl, hT, rfl, f1, f2⟩ := y
    obtain ⟨x, y, hx, hy, rfl⟩ := zipL_get hi
    obtain ⟨v', hv, dv⟩ := hd.get hx
    obtain ⟨u', hu, du⟩ := hd'.get hy
    have := f1 xs (.inl (.inr ⟨o, k.frz _ _ _ h⟩))
    rw [hv] at this; cases this
    have := f2 ys (k.sqT h')
    rw [hu] at this; cases this
    exact ⟨Ex.nw hT, .tup (.inl (.inl upd_same)) (.cons ((dv.kp k).ex (Ex.nw hT)) (.cons ((du.kp k).ex (Ex.nw hT)) .nil))⟩
section
variable {X : Cx} {R : Rl X.K X.w} {Ew : Ews} {a b : Expr} {fa fb : Fe} {pos p1 : Pos}
theorem ei_zipM {elts : List Expr} {kk : Nat} {tpos : Pos} (ha : PE X a (tE R Ew .da fa)) (hb : PE X b (tE R Ew .da fb)) (hg : Gl X "zip") (hm : X.mg "zip" = none)
    (hs : starEach [a, b] X.env = (false, eval a X.env) :: starEach [b] X.env := by rfl) (hs2 : starEach [b] X.env = (false, eval b X.env) :: starEach [] X.env := by rfl) (hpl : (backTo pos (starEach [b] X.env)).any (·.1) = false := by rfl) :
    PI X (.Tuple elts kk tpos) (.Call (.Name "zip" p1) [a, b] [] pos) (tI R Ew (fZipM fa fb)) := by
  refine PI.imp (pi_zipM hg hm (pa_cons ha (pa_cons hb pa_nil hs2) hs) hs hpl) fun σ H Q ⟨δ, p, q⟩ => ?_
  refine tE_then p (Ex.rf H) q fun d v H1 p1 e1 _ r1 q1 => ?_
  refine tE_then p1 e1 q1 fun d' v' H2 p2 e2 e02 r2 q2 => ?_
  obtain ⟨ds, hds, q3⟩ := q2.of
  have r1' := Da.ex e2 r1
  unfold zipMD at hds
  split at hds
  · cases hds
    cases r1' with
    | lst h1 h2 =>
      cases r2 with
      | tup h3 h4 => exact ⟨_, _, _, _, rfl, .inl (.inr ⟨_, h1⟩), h3, q3 _ _ e02 (stp_zipM h1 h2 h3 h4)⟩
  · cases hds
end
end Hm
/-! Hm31: a dict display of two texts, asked at once -/
namespace Hm
open PySem PySem.Spec PyProof.Rows L2 Ob PySem.SeqAt
def kixD (a b : Str) (d1 d2 : D) : D → Option D
  | .str x => if a = x then some d1 else if b = x then some d2 else none
  | _ => none
def getD2 (a b : Str) (d1 d2 : D) : D → Option D
  | .str x => if a = x then some d1 else if b = x then some d2 else some .none
  | _ => none
theorem merge2 {a b : Str} {v1 v2 : V} (hab : a ≠ b) : mergeK [] [((.inr a : Key), v1), (.inr b, v2)] = [(.inr a, v1), (.inr b, v2)] := by
  have : ¬ (Sum.inr a : Key) = Sum.inr b := fun h => hab (Sum.inr.inj h)
  simp [mergeK, putK, this, hab]
theorem valV2 {a b x : Str} {v1 v2 : V} : valV [((.inr a : Key), v1), (.inr b, v2)] (.inr x) = if a = x then some v1 else if b = x then some v2 else none := by
  unfold valV
  by_cases h1 : a = x
  · simp [h1]
  · by_cases h2 : b = x
    · simp [h1, h2]
    · simp [h1, h2]
section
variable {X : Cx} {R : Rl X.K X.w} {Ew : Ews} {e c1 c2 : Expr} {v1 v2 : V} {d1 d2 : D} {fe : Fe} {pos pos' p1 p2 : Pos} {a b : Str} {k1 k2 : Nat}
theorem ed_dsub (hu : X.A.units + 64 < cLine) (hab : a ≠ b) (h1 : PE X c1 (tC v1)) (h2 : PE X c2 (tC v2)) (r1 : ∀ H, Da X.K X.w H v1 d1) (r2 : ∀ H, Da X.K X.w H v2 d2) (he : PE X e (tE R Ew .sn fe)) (hs : NoSl e) :
    PE X (.Subscript (.Dict [some (.Constant (.str a) k1 p1), some (.Constant (.str b) k2 p2)] [c1, c2] pos') e pos) (tE R Ew .da (fUn (kixD a b d1 d2) fe)) := by
  refine PE.imp (pe_dget (by omega) (pe_disp (pps_cons pe_str h1 (pps_cons pe_str h2 pps_nil)) rfl rfl (by simp) (by simp)) he hs) fun σ H Q ⟨δ, p, q⟩ => ?_
  intro t ht
  refine ⟨upd_same, [(.inr a, v1), (.inr b, v2)], rfl, by simp, ?_⟩
  rw [merge2 hab, upd_upd]
  refine tE_then (R.ex p (Ex.nw ht)) (Ex.nw ht) q fun d v H1 p1 e1 e01 rr q1 => ?_
  obtain ⟨r, hr, q1⟩ := q1.of
  have hH : H1 t = some (.dK [(.inr a, v1), (.inr b, v2)]) := e1 _ _ upd_same
  unfold kixD at hr
  split at hr
  · rename_i x
    cases Sn.str_ rr
    split at hr
    · rename_i hx
      cases hr
      exact ⟨t, v1, rfl, .inl ⟨_, .inr x, .inl hH, rfl, by rw [valV2, if_pos hx]⟩, q1 _ _ e01 (r1 _)⟩
    · rename_i hx
      split at hr
      · rename_i hy
        cases hr
        exact ⟨t, v2, rfl, .inl ⟨_, .inr x, .inl hH, rfl, by rw [valV2, if_neg hx, if_pos hy]⟩, q1 _ _ e01 (r2 _)⟩
      · cases hr
  · cases hr
theorem ed_dgt {f : Expr} {apos cpos : Pos} (hu : X.A.units + 64 < cLine) (hab : a ≠ b) (h1 : PE X c1 (tC v1)) (h2 : PE X c2 (tC v2)) (r1 : ∀ H, Da X.K X.w H v1 d1) (r2 : ∀ H, Da X.K X.w H v2 d2) (he : PE X e (tE R Ew .sn fe)) (hf : PE X f (tC .non))
    (m : M2 X (.Dict [some (.Constant (.str a) k1 p1), some (.Constant (.str b) k2 p2)] [c1, c2] pos') "get" apos e f cpos) :
    PE X (.Call (.Attribute (.Dict [some (.Constant (.str a) k1 p1), some (.Constant (.str b) k2 p2)] [c1, c2] pos') "get" apos) [e, f] [] cpos) (tE R Ew .da (fUn (getD2 a b d1 d2) fe)) := by
  refine PE.imp (pe_dget2 (by omega) (pe_disp (pps_cons pe_str h1 (pps_cons pe_str h2 pps_nil)) rfl rfl (by simp) (by simp)) he hf m) fun σ H Q ⟨δ, p, q⟩ => ?_
  intro t ht
  refine ⟨upd_same, [(.inr a, v1), (.inr b, v2)], rfl, by simp, ?_⟩
  rw [merge2 hab, upd_upd]
  refine ⟨t, rfl, .inl ⟨_, .inl upd_same⟩, ?_⟩
  refine tE_then (R.ex p (Ex.nw ht)) (Ex.nw ht) q fun d v H1 p1 e1 e01 rr q1 => ?_
  obtain ⟨r, hr, q1⟩ := q1.of
  have hH : H1 t = some (.dK [(.inr a, v1), (.inr b, v2)]) := e1 _ _ upd_same
  unfold getD2 at hr
  split at hr
  · rename_i x
    cases Sn.str_ rr
    refine ⟨_, .inl ⟨_, .inr x, .inl hH, rfl, rfl⟩, ?_⟩
    rw [valV2]
    split at hr
    · rename_i hx
      cases hr
      rw [if_pos hx]
      exact q1 _ _ e01 (r1 _)
    · rename_i hx
      split at hr
      · rename_i hy
        cases hr
        rw [if_neg hx, if_pos hy]
        exact q1 _ _ e01 (r2 _)
      · rename_i hy
        cases hr
        rw [if_neg hx, if_neg hy]
        exact q1 _ _ e01 .non
  · cases hr
end
end Hm
namespace Hm.Fn
open PySem
def g_is_name : Fs := (gRet (vB (bAnd (bOf (fIsi .str (fVar 0))) (bAnd (bOf (fOp eqD (fCall (g1 lenD) (fCons (fVar 0) fNil)) (fC (.int 1)))) (bOf (fOp inD (fVar 0) (fC (.str "abcdefghijklmnopqrstuvwxyz"))))))))
def F_is_name : List D → Rs D := fnD 1 [.da] g_is_name
def g_is_stamp : Fs := (gSeq (gIf (bOr (bNot (bTr (fIsi .tuple (fVar 0)))) (bOr (bOf (fOp neD (fCall (g1 lenD) (fCons (fVar 0) fNil)) (fC (.int 2)))) (bOr (bNot (bTr (fIsi .int (fOp ixD (fVar 0) (fC (.int 0)))))) (bTr (fIsi .bool (fOp ixD (fVar 0) (fC (.int 0))))))))
    (gRet (fC (.bool false)))
    gNx)
    (gRet (vB (bAnd (bOf (fOp geD (fOp ixD (fVar 0) (fC (.int 0))) (fC (.int 1)))) (bOf (fCallF F_is_name (fCons (fOp ixD (fVar 0) (fC (.int 1))) fNil)))))))
def F_is_stamp : List D → Rs D := fnD 1 [.da] g_is_stamp
def g_is_letter : Fs := (gRet (vB (bAnd (bOf (fIsi .str (fVar 0))) (bAnd (bOf (fOp eqD (fCall (g1 lenD) (fCons (fVar 0) fNil)) (fC (.int 1)))) (bAnd (bOf (vB (bChain leD leD (fC (.str " ")) (fVar 0) (fC (.str "~"))))) (bOf (fOp neD (fCall (g1 ordD) (fCons (fVar 0) fNil)) (fC (.int 37)))))))))
def F_is_letter : List D → Rs D := fnD 1 [.da] g_is_letter
def c1_is_value : Fe := (fLc [2] (fIt (fVar 1)) (ftN 2) tYesF (fOp inD (fVar 2) (fC (.str "abcdefghijklmnopqrstuvwxyz"))))
def g_is_value : Fs := (gSeq (gIf (bOf (fOp eqD (fVar 0) (fC (.str "bold"))))
    (gRet (fIsi .bool (fVar 1)))
    gNx)
    (gSeq (gIf (bOf (fOp isD (fVar 1) (fC .none)))
    (gRet (fC (.bool true)))
    gNx)
    (gRet (vB (bAnd (bOf (fIsi .str (fVar 1))) (bAnd (bOf (vB (bChain leD leD (fC (.int 1)) (fCall (g1 lenD) (fCons (fVar 1) fNil)) (fC (.int 8))))) (bOf (fCall (g1 allD) (fCons c1_is_value fNil)))))))))
def F_is_value : List D → Rs D := fnD 3 [.da, .da] g_is_value
def g_is_below : Fs := (gRet (vB (bAnd (bOf (fCallF F_is_stamp (fCons (fVar 0) fNil))) (bOf (fOp ltD (fVar 0) (fVar 1))))))
def F_is_below : List D → Rs D := fnD 2 [.da, .da] g_is_below
def g_is_deed : Fs := (gSeq (gIf (bOr (bNot (bTr (fIsi .tuple (fVar 0)))) (bOr (bOf (fOp ltD (fCall (g1 lenD) (fCons (fVar 0) fNil)) (fC (.int 3)))) (bOr (bNot (bTr (fIsi .str (fOp ixD (fVar 0) (fC (.int 0)))))) (bNot (bTr (fCallF F_is_stamp (fCons (fOp ixD (fVar 0) (fC (.int 1))) fNil)))))))
    (gRet (fC (.bool false)))
    gNx)
    (gSeq (gTupS [1, 2] (fSl (fVar 0) foNo (foSome (fC (.int 2)))))
    (gSeq (gIf (bOf (fOp inD (fVar 1) (fTup (fCons (fC (.str "cut")) (fCons (fC (.str "off")) (fCons (fC (.str "on")) fNil))))))
    (gRet (vB (bAnd (bOf (fOp eqD (fCall (g1 lenD) (fCons (fVar 0) fNil)) (fC (.int 3)))) (bOf (fCallF F_is_below (fCons (fOp ixD (fVar 0) (fC (.int 2))) (fCons (fVar 2) fNil)))))))
    gNx)
    (gSeq (gIf (bOf (fOp eqD (fVar 1) (fC (.str "write"))))
    (gRet (vB (bAnd (bOf (fOp eqD (fCall (g1 lenD) (fCons (fVar 0) fNil)) (fC (.int 4)))) (bAnd (bOf (vB (bOr (bOf (fOp isD (fOp ixD (fVar 0) (fC (.int 2))) (fC .none))) (bOf (fCallF F_is_below (fCons (fOp ixD (fVar 0) (fC (.int 2))) (fCons (fVar 2) fNil))))))) (bOf (fCallF F_is_letter (fCons (fOp ixD (fVar 0) (fC (.int 3))) fNil)))))))
    gNx)
    (gSeq (gIf (bOr (bOf (fOp neD (fVar 1) (fC (.str "mark")))) (bOr (bOf (fOp neD (fCall (g1 lenD) (fCons (fVar 0) fNil)) (fC (.int 6)))) (bOr (bNot (bTr (fIsi .str (fOp ixD (fVar 0) (fC (.int 2)))))) (bOf (fOp notInD (fOp ixD (fVar 0) (fC (.int 2))) (fC (.tuple [(.str "bold"), (.str "link")])))))))
    (gRet (fC (.bool false)))
    gNx)
    (gSeq (gTupS [3, 4, 5, 6] (fSl (fVar 0) (foSome (fC (.int 2))) foNo))
    (gSeq (gIf (bOr (bNot (bTr (fCallF F_is_below (fCons (fVar 4) (fCons (fVar 2) fNil))))) (bNot (bTr (fCallF F_is_value (fCons (fVar 3) (fCons (fVar 6) fNil))))))
    (gRet (fC (.bool false)))
    gNx)
    (gRet (vB (bOr (bOf (fCallF F_is_below (fCons (fVar 5) (fCons (fVar 2) fNil)))) (bOf (vB (bAnd (bOf (fOp isD (fVar 5) (fC .none))) (bOf (fOp eqD (fVar 3) (fC (.str "bold")))))))))))))))))
def F_is_deed : List D → Rs D := fnD 7 [.da] g_is_deed
def g__law_cell : Fs := (gSeq (gIf (bOf (fOp ltD (fVar 1) (fCall (g1 lenD) (fCons (fSn 0) fNil))))
    (gRet (fOp ixD (fSn 0) (fVar 1)))
    gNx)
    (gRet (fC (.int 0))))
def F__law_cell : List D → Rs D := fnD 2 [.sn, .da] g__law_cell
def g__law_mix : Fs := (gSeq (gSet 3 (fOp modD (fOp mulD (fVar 0) (fC (.int 48271))) (fVar 1)))
    (gRet (fOp modD (fOp modD (fOp mulD (fVar 3) (fOp addD (fVar 3) (fC (.int 7)))) (fVar 1)) (fVar 2))))
def F__law_mix : List D → Rs D := fnD 4 [.da, .da, .da] g__law_mix
def c1__law_same (F : List D → Rs D) : Fe := (fLc [2, 3] (fZip (fVar 0) (fVar 1)) (ftT [2, 3]) tYesF (fCallF F (fCons (fVar 2) (fCons (fVar 3) fNil))))
def g__law_same (F : List D → Rs D) : Fs := (gSeq (gIf (bTr (fIsi .tuple (fVar 1)))
    (gSeq (gIf (bOr (bNot (bTr (fIsi .tuple (fVar 0)))) (bOf (fOp neD (fCall (g1 lenD) (fCons (fVar 0) fNil)) (fCall (g1 lenD) (fCons (fVar 1) fNil)))))
    (gRet (fC (.bool false)))
    gNx)
    (gRet (fCall (g1 allD) (fCons (c1__law_same F) fNil))))
    gNx)
    (gSeq (gIf (bOf (fOp isD (fVar 1) (fC .none)))
    (gRet (fOp isD (fVar 0) (fC .none)))
    gNx)
    (gSeq (gIf (bOr (bTr (fIsi .bool (fVar 1))) (bTr (fIsi .bool (fVar 0))))
    (gRet (vB (bAnd (bOf (fIsi .bool (fVar 1))) (bAnd (bOf (fIsi .bool (fVar 0))) (bOf (fOp eqD (fVar 0) (fVar 1)))))))
    gNx)
    (gRet (vB (bAnd (bOf (fIsi2 .int .str (fVar 0))) (bOf (fOp eqD (fVar 0) (fVar 1)))))))))
def F__law_same : Nat → List D → Rs D
  | 0 => fun _ => .bad
  | n + 1 => fnD 4 [.da, .da] (g__law_same (F__law_same n))
def g__law_letter : Fs := (gSeq (gSet 1 (fC (.str "abc xyz!ABZ~0189-\\/()[]{}<>?*+=,.;:'\"_^|&#@$QRST")))
    (gRet (fOp ixD (fVar 1) (fCallF F__law_mix (fCons (fVar 0) (fCons (fC (.int 9973)) (fCons (fCall (g1 lenD) (fCons (fVar 1) fNil)) fNil)))))))
def F__law_letter : List D → Rs D := fnD 2 [.da] g__law_letter
def g__law_value : Fs := (gSeq (gIf (bOf (fOp eqD (fVar 1) (fC (.str "bold"))))
    (gRet (fOp eqD (fCallF F__law_mix (fCons (fVar 0) (fCons (fC (.int 9967)) (fCons (fC (.int 2)) fNil)))) (fC (.int 0))))
    gNx)
    (gRet (fOp ixD (fTup (fCons (fC .none) (fCons (fC (.str "a")) (fCons (fC (.str "go")) (fCons (fC (.str "zzzzzzzz")) (fCons (fC (.str "link")) (fCons (fC (.str "a")) fNil))))))) (fCallF F__law_mix (fCons (fVar 0) (fCons (fC (.int 9949)) (fCons (fC (.int 6)) fNil)))))))
def F__law_value : List D → Rs D := fnD 2 [.da, .da] g__law_value
def b1__law_deeds : Fs := (gSeq (gSet 7 (fOp addD (fVar 0) (fOp mulD (fC (.int 31)) (fVar 6))))
    (gSeq (gSet 8 (fCallF F__law_mix (fCons (fVar 7) (fCons (fC (.int 9941)) (fCons (fC (.int 10)) fNil)))))
    (gSeq (gSet 9 (fOp ixD (fC (.str "abz")) (fCallF F__law_mix (fCons (fVar 7) (fCons (fC (.int 9931)) (fCons (fC (.int 3)) fNil))))))
    (gSeq (gIf (bOr (bOf (fOp eqD (fSn 2) (fLst fNil))) (bOr (bOf (fOp geD (fOp ixD (fOp ixD (fOp ixD (fSn 2) (fNeg (fC (.int 1)))) (fC (.int 1))) (fC (.int 1))) (fVar 9))) (bOf (fOp gtD (fCallF F__law_mix (fCons (fVar 7) (fCons (fC (.int 9929)) (fCons (fC (.int 3)) fNil)))) (fC (.int 0))))))
    (gSet 5 (fOp addD (fOp addD (fVar 5) (fC (.int 1))) (fOp divD (fCallF F__law_mix (fCons (fVar 7) (fCons (fC (.int 9923)) (fCons (fC (.int 3)) fNil)))) (fC (.int 2)))))
    gNx)
    (gSeq (gSet 10 (fTup (fCons (fVar 5) (fCons (fVar 9) fNil))))
    (gSeq (gIf (bOr (bOf (fOp ltD (fVar 8) (fC (.int 5)))) (bOf (fOp eqD (fSn 3) (fLst fNil))))
    (gSeq (gSet 11 (fOp addD (fLst (fCons (fC .none) fNil)) (fSn 3)))
    (gSeq (gSet 12 (fOp ixD (fVar 11) (fCallF F__law_mix (fCons (fVar 7) (fCons (fC (.int 9907)) (fCons (fCall (g1 lenD) (fCons (fVar 11) fNil)) fNil))))))
    (gSeq (gIf (bOf (fOp eqD (fCallF F__law_mix (fCons (fVar 7) (fCons (fC (.int 9901)) (fCons (fC (.int 2)) fNil)))) (fC (.int 0))))
    (gSet 12 (fOp ixD (fVar 11) (fNeg (fC (.int 1)))))
    gNx)
    (gSeq (gApp 2 (fTup (fCons (fC (.str "write")) (fCons (fVar 10) (fCons (fVar 12) (fCons (fCallF F__law_letter (fCons (fOp addD (fVar 7) (fC (.int 7))) fNil)) fNil))))))
    (gApp 3 (fVar 10))))))
    (gIf (bOf (fOp eqD (fVar 8) (fC (.int 5))))
    (gApp 2 (fTup (fCons (fC (.str "cut")) (fCons (fVar 10) (fCons (fOp ixD (fSn 3) (fCallF F__law_mix (fCons (fVar 7) (fCons (fC (.int 9887)) (fCons (fCall (g1 lenD) (fCons (fSn 3) fNil)) fNil))))) fNil)))))
    (gIf (bOf (fOp ltD (fVar 8) (fC (.int 8))))
    (gSeq (gSet 13 (fOp ixD (fTup (fCons (fC (.str "bold")) (fCons (fC (.str "link")) fNil))) (fCallF F__law_mix (fCons (fVar 7) (fCons (fC (.int 9883)) (fCons (fC (.int 2)) fNil))))))
    (gSeq (gSet 14 (fOp ixD (fSn 3) (fCallF F__law_mix (fCons (fVar 7) (fCons (fC (.int 9871)) (fCons (fCall (g1 lenD) (fCons (fSn 3) fNil)) fNil))))))
    (gSeq (gSet 15 (fOp ixD (fSn 3) (fCallF F__law_mix (fCons (fVar 7) (fCons (fC (.int 9859)) (fCons (fCall (g1 lenD) (fCons (fSn 3) fNil)) fNil))))))
    (gSeq (gIf (bAnd (bOf (fOp eqD (fVar 13) (fC (.str "bold")))) (bOf (fOp eqD (fCallF F__law_mix (fCons (fVar 7) (fCons (fC (.int 9857)) (fCons (fC (.int 3)) fNil)))) (fC (.int 0)))))
    (gSet 15 (fC .none))
    gNx)
    (gApp 2 (fTup (fCons (fC (.str "mark")) (fCons (fVar 10) (fCons (fVar 13) (fCons (fVar 14) (fCons (fVar 15) (fCons (fCallF F__law_value (fCons (fOp addD (fVar 7) (fC (.int 3))) (fCons (fVar 13) fNil))) fNil))))))))))))
    (gSeq (gSet 16 (fOp addD (fSn 3) (fSn 4)))
    (gSeq (gSet 17 (fOp ixD (fTup (fCons (fC (.str "off")) (fCons (fC (.str "on")) (fCons (fC (.str "off")) fNil)))) (fCallF F__law_mix (fCons (fVar 7) (fCons (fC (.int 9851)) (fCons (fC (.int 3)) fNil))))))
    (gApp 2 (fTup (fCons (fVar 17) (fCons (fVar 10) (fCons (fOp ixD (fVar 16) (fCallF F__law_mix (fCons (fVar 7) (fCons (fC (.int 9839)) (fCons (fCall (g1 lenD) (fCons (fVar 16) fNil)) fNil))))) fNil))))))))))
    (gIf (bOf (fOp inD (fOp ixD (fOp ixD (fSn 2) (fNeg (fC (.int 1)))) (fC (.int 0))) (fTup (fCons (fC (.str "cut")) (fCons (fC (.str "mark")) fNil)))))
    (gApp 4 (fVar 10))
    gNx)))))))
def g__law_deeds : Fs := (gSeq (gPar3L 2 3 4)
    (gSeq (gSet 5 (fC (.int 0)))
    (gSeq (gFor (rng1 (fVar 1)) (ftN 6) b1__law_deeds)
    (gRet (fCall (g1 tupleD) (fCons (fSn 2) fNil))))))
def F__law_deeds : List D → Rs D := fnD 18 [.da, .da] g__law_deeds
def g__law_is_stamp : Fs := (gSeq (gIf (bOr (bNot (bTr (fIsi .tuple (fVar 0)))) (bOr (bOf (fOp neD (fCall (g1 lenD) (fCons (fVar 0) fNil)) (fC (.int 2)))) (bOr (bNot (bTr (fIsi .int (fOp ixD (fVar 0) (fC (.int 0)))))) (bTr (fIsi .bool (fOp ixD (fVar 0) (fC (.int 0))))))))
    (gRet (fC (.bool false)))
    gNx)
    (gRet (vB (bAnd (bOf (fOp gtD (fOp ixD (fVar 0) (fC (.int 0))) (fC (.int 0)))) (bAnd (bOf (fIsi .str (fOp ixD (fVar 0) (fC (.int 1))))) (bAnd (bOf (fOp eqD (fCall (g1 lenD) (fCons (fOp ixD (fVar 0) (fC (.int 1))) fNil)) (fC (.int 1)))) (bOf (vB (bChain leD leD (fC (.str "a")) (fOp ixD (fVar 0) (fC (.int 1))) (fC (.str "z")))))))))))
def F__law_is_stamp : List D → Rs D := fnD 1 [.da] g__law_is_stamp
def g__law_is_below : Fs := (gRet (vB (bAnd (bOf (fCallF F__law_is_stamp (fCons (fVar 0) fNil))) (bOf (fOp ltD (fVar 0) (fVar 1))))))
def F__law_is_below : List D → Rs D := fnD 2 [.da, .da] g__law_is_below
def c1__law_is_worth : Fe := (fLc [2] (fIt (fVar 1)) (ftN 2) (bNot (bChain leD leD (fC (.str "a")) (fVar 2) (fC (.str "z")))) (fVar 2))
def g__law_is_worth : Fs := (gSeq (gIf (bOf (fOp eqD (fVar 0) (fC (.str "bold"))))
    (gRet (fIsi .bool (fVar 1)))
    gNx)
    (gSeq (gIf (bOf (fOp isD (fVar 1) (fC .none)))
    (gRet (fC (.bool true)))
    gNx)
    (gRet (vB (bAnd (bOf (fIsi .str (fVar 1))) (bAnd (bOf (vB (bChain ltD ltD (fC (.int 0)) (fCall (g1 lenD) (fCons (fVar 1) fNil)) (fC (.int 9))))) (bOf (fOp eqD c1__law_is_worth (fLst fNil)))))))))
def F__law_is_worth : List D → Rs D := fnD 3 [.da, .da] g__law_is_worth
def b1_order : Fs := (gSeq (gPop 5 4)
    (gSeq (gApp 3 (fVar 5))
    (gExt 4 (fCall (g1 sortedD) (fCons (fGet2 1 (fVar 5)) fNil)))))
def b2_order : Fs := (gIf (bOf (fOp eqD (fOp ixD (fVar 2) (fC (.int 0))) (fC (.str "write"))))
    (gSda 1 (fOp ixD (fVar 2) (fC (.int 2))) (fOp ixD (fVar 2) (fC (.int 1))))
    gNx)
def g_order : Fs := (gSeq (gOwn2 1)
    (gSeq (gFor (fIt (fVar 0)) (ftN 2) b2_order)
    (gSeq (gOwn 3 (fLst fNil))
    (gSeq (gOwn 4 (fCall (g1 sortedD) (fCons (fGet2 1 (fC .none)) fNil)))
    (gSeq (gWhile (fun _ => 2000) (bTr (fSn 4)) b1_order)
    (gRet (fCall (g1 tupleD) (fCons (fSn 3) fNil))))))))
def F_order : List D → Rs D := fnD 6 [.da] g_order
def c1_counts : Fe := (fLc [3] (fIt (fVar 0)) (ftN 3) (bAnd (bOf (fOp inD (fOp ixD (fVar 3) (fC (.int 0))) (fTup (fCons (fC (.str "off")) (fCons (fC (.str "on")) fNil))))) (bOf (fOp eqD (fOp ixD (fVar 3) (fC (.int 2))) (fVar 1)))) (fOp addD (fSl (fVar 3) (foSome (fC (.int 1))) (foSome (fC (.int 2)))) (fSl (fVar 3) foNo (foSome (fC (.int 1))))))
def g_counts : Fs := (gSeq (gSet 2 c1_counts)
    (gRet (vB (bOr (bOf (vB (bNot (bTr (fVar 2))))) (bOf (fOp eqD (fOp ixD (fCall (g1 maxD) (fCons (fVar 2) fNil)) (fC (.int 1))) (fC (.str "on"))))))))
def F_counts : List D → Rs D := fnD 4 [.da, .da] g_counts
def c1_is_shown : Fe := (fLc [4] (fIt (fVar 2)) (ftN 4) tYesF (fCallF F_counts (fCons (fVar 0) (fCons (fVar 4) fNil))))
def c2_is_shown : Fe := (fLc [3] (fIt (fVar 0)) (ftN 3) (bAnd (bOf (fOp eqD (fOp ixD (fVar 3) (fC (.int 0))) (fC (.str "cut")))) (bOf (fOp eqD (fOp ixD (fVar 3) (fC (.int 2))) (fVar 1)))) (fOp ixD (fVar 3) (fC (.int 1))))
def g_is_shown : Fs := (gSeq (gSet 2 c2_is_shown)
    (gRet (vB (bAnd (bOf (fCallF F_counts (fCons (fVar 0) (fCons (fVar 1) fNil)))) (bOf (vB (bNot (bTr (fCall (g1 anyD) (fCons c1_is_shown fNil))))))))))
def F_is_shown : List D → Rs D := fnD 5 [.da, .da] g_is_shown
def b1__law_order (F : List D → Rs D) : Fs := (gIf (bAnd (bOf (fOp eqD (fOp ixD (fVar 3) (fC (.int 0))) (fC (.str "write")))) (bOf (fOp eqD (fOp ixD (fVar 3) (fC (.int 2))) (fVar 1))))
    (gSet 2 (fOp addD (fOp addD (fVar 2) (fLst (fCons (fOp ixD (fVar 3) (fC (.int 1))) fNil))) (fCallF F (fCons (fVar 0) (fCons (fOp ixD (fVar 3) (fC (.int 1))) fNil)))))
    gNx)
def g__law_order (F : List D → Rs D) : Fs := (gSeq (gSet 2 (fLst fNil))
    (gSeq (gFor (fIt (fRev (fVar 0))) (ftN 3) (b1__law_order F))
    (gRet (fVar 2))))
def F__law_order : Nat → List D → Rs D
  | 0 => fun _ => .bad
  | n + 1 => fnD 4 [.da, .da] (g__law_order (F__law_order n))
def b1__law_counts : Fs := (gIf (bAnd (bOf (fOp inD (fOp ixD (fVar 3) (fC (.int 0))) (fTup (fCons (fC (.str "off")) (fCons (fC (.str "on")) fNil))))) (bOf (fOp eqD (fOp ixD (fVar 3) (fC (.int 2))) (fVar 1))))
    (gSet 2 (fOp eqD (fOp ixD (fVar 3) (fC (.int 0))) (fC (.str "on"))))
    gNx)
def g__law_counts : Fs := (gSeq (gSet 2 (fC (.bool true)))
    (gSeq (gFor (fIt (fVar 0)) (ftN 3) b1__law_counts)
    (gRet (fVar 2))))
def F__law_counts : List D → Rs D := fnD 4 [.da, .da] g__law_counts
def b1__law_is_shown : Fs := (gIf (bAnd (bOf (fOp eqD (fOp ixD (fVar 2) (fC (.int 0))) (fC (.str "cut")))) (bAnd (bOf (fOp eqD (fOp ixD (fVar 2) (fC (.int 2))) (fVar 1))) (bTr (fCallF F__law_counts (fCons (fVar 0) (fCons (fOp ixD (fVar 2) (fC (.int 1))) fNil))))))
    (gRet (fC (.bool false)))
    gNx)
def g__law_is_shown : Fs := (gSeq (gFor (fIt (fVar 0)) (ftN 2) b1__law_is_shown)
    (gRet (fCallF F__law_counts (fCons (fVar 0) (fCons (fVar 1) fNil)))))
def F__law_is_shown : List D → Rs D := fnD 3 [.da, .da] g__law_is_shown
def c1_shown : Fe := (fLc [3] (fIt (fCallF F_order (fCons (fVar 0) fNil))) (ftN 3) (bOr (bOf (fOp notInD (fVar 3) (fSn 1))) (bTr (fCallF F_is_shown (fCons (fVar 0) (fCons (fVar 3) fNil))))) (fVar 3))
def b1_shown : Fs := (gIf (bOf (fOp inD (fOp ixD (fVar 2) (fC (.int 0))) (fTup (fCons (fC (.str "cut")) (fCons (fC (.str "off")) (fCons (fC (.str "on")) fNil))))))
    (gDput 1 (fOp ixD (fVar 2) (fC (.int 2))) (fC (.bool true)))
    gNx)
def g_shown : Fs := (gSeq (gOwn 1 (fC (.dict [])))
    (gSeq (gFor (fIt (fVar 0)) (ftN 2) b1_shown)
    (gRet c1_shown)))
def F_shown : List D → Rs D := fnD 4 [.da] g_shown
def c1_letters_of : Fe := (fLc [1] (fIt (fVar 0)) (ftN 1) (bOf (fOp eqD (fOp ixD (fVar 1) (fC (.int 0))) (fC (.str "write")))) (fTup (fCons (fOp ixD (fVar 1) (fC (.int 1))) (fCons (fOp ixD (fVar 1) (fC (.int 3))) fNil))))
def g_letters_of : Fs := (gRet (fCall (g1 dictD) (fCons c1_letters_of fNil)))
def F_letters_of : List D → Rs D := fnD 2 [.da] g_letters_of
def c1_text : Fe := (fLc [2] (fIt (fCallF F_shown (fCons (fVar 0) fNil))) (ftN 2) tYesF (fOp ixD (fVar 1) (fVar 2)))
def g_text : Fs := (gSeq (gSet 1 (fCallF F_letters_of (fCons (fVar 0) fNil)))
    (gRet (fOp joinD (fStr (fC (.str ""))) c1_text)))
def F_text : List D → Rs D := fnD 3 [.da] g_text
def g_is_covered : Fs := (gSeq (gTupS [3, 4, 5] (fSl (fVar 1) (foSome (fC (.int 2))) (foSome (fC (.int 5)))))
    (gSeq (gIf (bOf (fOp ltD (fOp ixD (fVar 0) (fVar 2)) (fOp ixD (fVar 0) (fVar 4))))
    (gRet (fC (.bool false)))
    gNx)
    (gSeq (gIf (bOf (fOp eqD (fVar 3) (fC (.str "link"))))
    (gRet (fOp leD (fOp ixD (fVar 0) (fVar 2)) (fOp ixD (fVar 0) (fVar 5))))
    gNx)
    (gRet (vB (bOr (bOf (fOp isD (fVar 5) (fC .none))) (bOf (fOp ltD (fOp ixD (fVar 0) (fVar 2)) (fOp ixD (fVar 0) (fVar 5))))))))))
def F_is_covered : List D → Rs D := fnD 6 [.da, .da, .da] g_is_covered
def c1_places_of : Fe := (fLc [1, 2] (fEnum (fCallF F_order (fCons (fVar 0) fNil))) (ftT [1, 2]) tYesF (fTup (fCons (fVar 2) (fCons (fVar 1) fNil))))
def g_places_of : Fs := (gRet (fCall (g1 dictD) (fCons c1_places_of fNil)))
def F_places_of : List D → Rs D := fnD 3 [.da] g_places_of
def c1_covers : Fe := (fLc [4] (fIt (fVar 0)) (ftN 4) (bOf (fOp eqD (fOp ixD (fVar 4) (fC (.int 1))) (fVar 1))) (fVar 4))
def g_covers : Fs := (gSeq (gSet 3 (fOp ixD c1_covers (fC (.int 0))))
    (gRet (fCallF F_is_covered (fCons (fCallF F_places_of (fCons (fVar 0) fNil)) (fCons (fVar 3) (fCons (fVar 2) fNil))))))
def F_covers : List D → Rs D := fnD 5 [.da, .da, .da] g_covers
def c1_marks_of : Fe := (fLc [2] (fIt (fVar 0)) (ftN 2) (bAnd (bOf (fOp eqD (fOp ixD (fVar 2) (fC (.int 0))) (fC (.str "mark")))) (bOf (fOp eqD (fOp ixD (fVar 2) (fC (.int 2))) (fVar 1)))) (fVar 2))
def g_marks_of : Fs := (gRet (fRev c1_marks_of))
def F_marks_of : List D → Rs D := fnD 3 [.da, .da] g_marks_of
def b1_first_telling : Fs := (gIf (bTr (fCallF F_is_covered (fCons (fVar 0) (fCons (fVar 3) (fCons (fVar 2) fNil)))))
    (gRet (fVar 3))
    gNx)
def g_first_telling : Fs := (gSeq (gFor (fIt (fVar 1)) (ftN 3) b1_first_telling)
    (gRet (fC .none)))
def F_first_telling : List D → Rs D := fnD 4 [.da, .da, .da] g_first_telling
def c1_counting_marks : Fe := (fLc [2] (fIt (fCallF F_marks_of (fCons (fVar 0) (fCons (fVar 1) fNil)))) (ftN 2) (bTr (fCallF F_counts (fCons (fVar 0) (fCons (fOp ixD (fVar 2) (fC (.int 1))) fNil)))) (fVar 2))
def g_counting_marks : Fs := (gRet c1_counting_marks)
def F_counting_marks : List D → Rs D := fnD 3 [.da, .da] g_counting_marks
def g_teller : Fs := (gSeq (gSet 3 (fCallF F_first_telling (fCons (fCallF F_places_of (fCons (fVar 0) fNil)) (fCons (fCallF F_counting_marks (fCons (fVar 0) (fCons (fVar 2) fNil))) (fCons (fVar 1) fNil)))))
    (gSeq (gIf (bOf (fOp isD (fVar 3) (fC .none)))
    (gRet (fC .none))
    gNx)
    (gRet (fOp ixD (fVar 3) (fC (.int 1))))))
def F_teller : List D → Rs D := fnD 4 [.da, .da, .da] g_teller
def g_value : Fs := (gSeq (gSet 3 (fCallF F_first_telling (fCons (fCallF F_places_of (fCons (fVar 0) fNil)) (fCons (fCallF F_counting_marks (fCons (fVar 0) (fCons (fVar 2) fNil))) (fCons (fVar 1) fNil)))))
    (gSeq (gIf (bOf (fOp isD (fVar 3) (fC .none)))
    (gRet (fKix [((.str "bold"), (.bool false)), ((.str "link"), .none)] (fVar 2)))
    gNx)
    (gRet (fOp ixD (fVar 3) (fC (.int 5))))))
def F_value : List D → Rs D := fnD 4 [.da, .da, .da] g_value
def b1_spans : Fs := (gSeq (gSet 8 (fCallF F_first_telling (fCons (fVar 1) (fCons (fOp ixD (fVar 3) (fVar 4)) (fCons (fVar 6) fNil)))))
    (gSet 7 (fOp addD (fVar 7) (fTup (fCons (fIf (bOf (fOp isD (fVar 8) (fC .none))) (fKix [((.str "bold"), (.bool false)), ((.str "link"), .none)] (fVar 4)) (fOp ixD (fVar 8) (fC (.int 5)))) fNil)))))
def b2_spans : Fs := (gSeq (gSet 7 (fTup fNil))
    (gSeq (gFor (fIt (fC (.tuple [(.str "bold"), (.str "link")]))) (ftN 4) b1_spans)
    (gIf (bAnd (bTr (fSn 5)) (bOf (fOp eqD (fSl (fOp ixD (fSn 5) (fNeg (fC (.int 1)))) (foSome (fC (.int 1))) foNo) (fVar 7))))
    (gSetI 5 (fNeg (fC (.int 1))) (fOp addD (fTup (fCons (fOp addD (fOp ixD (fOp ixD (fSn 5) (fNeg (fC (.int 1)))) (fC (.int 0))) (fOp ixD (fVar 2) (fVar 6))) fNil)) (fVar 7)))
    (gApp 5 (fOp addD (fTup (fCons (fOp ixD (fVar 2) (fVar 6)) fNil)) (fVar 7))))))
def c1_spans : Fe := (fLc [4] (fIt (fC (.tuple [(.str "bold"), (.str "link")]))) (ftN 4) tYesF (fTup (fCons (fVar 4) (fCons (fCallF F_counting_marks (fCons (fVar 0) (fCons (fVar 4) fNil))) fNil))))
def g_spans : Fs := (gSeq (gPar 1 2 (fCallF F_places_of (fCons (fVar 0) fNil)) (fCallF F_letters_of (fCons (fVar 0) fNil)))
    (gSeq (gSet 3 (fCall (g1 dictD) (fCons c1_spans fNil)))
    (gSeq (gOwn 5 (fLst fNil))
    (gSeq (gFor (fIt (fCallF F_shown (fCons (fVar 0) fNil))) (ftN 6) b2_spans)
    (gRet (fCall (g1 tupleD) (fCons (fSn 5) fNil)))))))
def F_spans : List D → Rs D := fnD 9 [.da] g_spans
def g__law_covers : Fs := (gSeq (gTupS [3, 4, 5] (fSl (fVar 1) (foSome (fC (.int 2))) (foSome (fC (.int 5)))))
    (gSeq (gSet 6 (fCall (g1 lenD) (fCons (fVar 0) fNil)))
    (gSeq (gIf (bOf (fOp isNotD (fVar 5) (fC .none)))
    (gSet 6 (fOp addD (fOp indexD (fLs (fVar 0)) (fVar 5)) (fCall (g1 intD) (fCons (fOp eqD (fVar 3) (fC (.str "link"))) fNil))))
    gNx)
    (gRet (vB (bChain leD ltD (fOp indexD (fLs (fVar 0)) (fVar 4)) (fOp indexD (fLs (fVar 0)) (fVar 2)) (fVar 6)))))))
def F__law_covers : List D → Rs D := fnD 7 [.da, .da, .da] g__law_covers
def b1__law_teller : Fs := (gIf (bAnd (bOf (fOp eqD (fOp ixD (fVar 5) (fC (.int 0))) (fC (.str "mark")))) (bAnd (bOf (fOp eqD (fOp ixD (fVar 5) (fC (.int 2))) (fVar 3))) (bAnd (bTr (fCallF F__law_covers (fCons (fVar 1) (fCons (fVar 5) (fCons (fVar 2) fNil))))) (bTr (fCallF F__law_counts (fCons (fVar 0) (fCons (fOp ixD (fVar 5) (fC (.int 1))) fNil)))))))
    (gSet 4 (fVar 5))
    gNx)
def g__law_teller : Fs := (gSeq (gSet 4 (fC .none))
    (gSeq (gFor (fIt (fVar 0)) (ftN 5) b1__law_teller)
    (gRet (fVar 4))))
def F__law_teller : List D → Rs D := fnD 6 [.da, .da, .da, .da] g__law_teller
def g__law_values : Fs := (gSeq (gPar 3 4 (fCallF F__law_teller (fCons (fVar 0) (fCons (fVar 1) (fCons (fVar 2) (fCons (fC (.str "bold")) fNil))))) (fCallF F__law_teller (fCons (fVar 0) (fCons (fVar 1) (fCons (fVar 2) (fCons (fC (.str "link")) fNil))))))
    (gRet (fTup (fCons (fIf (bOf (fOp isD (fVar 3) (fC .none))) (fC (.bool false)) (fOp ixD (fVar 3) (fC (.int 5)))) (fCons (fIf (bOf (fOp isD (fVar 4) (fC .none))) (fC .none) (fOp ixD (fVar 4) (fC (.int 5)))) fNil)))))
def F__law_values : List D → Rs D := fnD 5 [.da, .da, .da] g__law_values
def b1__law_spans : Fs := (gIf (bTr (fCallF F__law_is_shown (fCons (fVar 0) (fCons (fVar 5) fNil))))
    (gSeq (gSet 6 (fCallF F__law_values (fCons (fVar 0) (fCons (fVar 3) (fCons (fVar 5) fNil)))))
    (gIf (bAnd (bTr (fSn 4)) (bOf (fOp eqD (fSl (fOp ixD (fSn 4) (fNeg (fC (.int 1)))) (foSome (fC (.int 1))) foNo) (fVar 6))))
    (gSetI 4 (fNeg (fC (.int 1))) (fOp addD (fTup (fCons (fOp addD (fOp ixD (fOp ixD (fSn 4) (fNeg (fC (.int 1)))) (fC (.int 0))) (fOp ixD (fVar 1) (fVar 5))) fNil)) (fVar 6)))
    (gApp 4 (fOp addD (fTup (fCons (fOp ixD (fVar 1) (fVar 5)) fNil)) (fVar 6)))))
    gNx)
def c1__law_spans : Fe := (fLc [2] (fIt (fVar 0)) (ftN 2) (bOf (fOp eqD (fOp ixD (fVar 2) (fC (.int 0))) (fC (.str "write")))) (fTup (fCons (fOp ixD (fVar 2) (fC (.int 1))) (fCons (fOp ixD (fVar 2) (fC (.int 3))) fNil))))
def g__law_spans : Fs := (gSeq (gSet 1 (fCall (g1 dictD) (fCons c1__law_spans fNil)))
    (gSeq (gSet 3 (fCallF (F__law_order 30) (fCons (fVar 0) (fCons (fC .none) fNil))))
    (gSeq (gOwn 4 (fLst fNil))
    (gSeq (gFor (fIt (fVar 3)) (ftN 5) b1__law_spans)
    (gRet (fCall (g1 tupleD) (fCons (fSn 4) fNil)))))))
def F__law_spans : List D → Rs D := fnD 7 [.da] g__law_spans
def c1_later_marks : Fe := (fLc [3] (fIt (fCallF F_marks_of (fCons (fVar 0) (fCons (fVar 1) fNil)))) (ftN 3) (bOr (bOf (fOp isD (fVar 2) (fC .none))) (bOf (fOp gtD (fOp ixD (fVar 3) (fC (.int 1))) (fVar 2)))) (fOp ixD (fVar 3) (fC (.int 1))))
def g_later_marks : Fs := (gRet (fCall (g1 sortedD) (fCons c1_later_marks fNil)))
def F_later_marks : List D → Rs D := fnD 4 [.da, .da, .da] g_later_marks
def b1_paper : Fs := (gApp 4 (fTup (fCons (fVar 5) (fCons (fIf (bTr (fCallF F_counts (fCons (fVar 0) (fCons (fVar 5) fNil)))) (fC (.str "apart")) (fC (.str "off"))) fNil))))
def g_paper : Fs := (gSeq (gSet 3 (fCallF F_teller (fCons (fVar 0) (fCons (fVar 1) (fCons (fVar 2) fNil)))))
    (gSeq (gOwn 4 (fLst fNil))
    (gSeq (gFor (fIt (fCallF F_later_marks (fCons (fVar 0) (fCons (fVar 2) (fCons (fVar 3) fNil))))) (ftN 5) b1_paper)
    (gRet (fTup (fCons (fVar 3) (fCons (fCall (g1 tupleD) (fCons (fSn 4) fNil)) fNil)))))))
def F_paper : List D → Rs D := fnD 6 [.da, .da, .da] g_paper
def g_is_row : Fs := (gSeq (gIf (bOr (bNot (bTr (fIsi .tuple (fVar 3)))) (bOr (bOf (fOp neD (fCall (g1 lenD) (fCons (fVar 3) fNil)) (fC (.int 2)))) (bOf (fOp neD (fOp ixD (fVar 3) (fC (.int 0))) (fVar 2)))))
    (gRet (fC (.bool false)))
    gNx)
    (gSeq (gIf (bOf (fOp eqD (fOp ixD (fVar 3) (fC (.int 1))) (fC (.str "off"))))
    (gRet (vB (bNot (bTr (fCallF F_counts (fCons (fVar 0) (fCons (fVar 2) fNil)))))))
    gNx)
    (gRet (vB (bAnd (bOf (fOp eqD (fOp ixD (fVar 3) (fC (.int 1))) (fC (.str "apart")))) (bOf (vB (bNot (bTr (fCallF F_covers (fCons (fVar 0) (fCons (fVar 2) (fCons (fVar 1) fNil)))))))))))))
def F_is_row : List D → Rs D := fnD 4 [.da, .da, .da, .da] g_is_row
def c1_is_paper : Fe := (fLc [9, 10] (fZipM (fVar 8) (fVar 5)) (ftT [9, 10]) tYesF (fCallF F_is_row (fCons (fVar 0) (fCons (fVar 1) (fCons (fVar 9) (fCons (fVar 10) fNil))))))
def c2_is_paper : Fe := (fLc [7] (fIt (fCallF F_marks_of (fCons (fVar 0) (fCons (fVar 2) fNil)))) (ftN 7) (bOf (fOp eqD (fOp ixD (fVar 7) (fC (.int 1))) (fVar 4))) (fVar 7))
def g_is_paper : Fs := (gSeq (gIf (bOr (bNot (bTr (fIsi .tuple (fVar 3)))) (bOr (bOf (fOp neD (fCall (g1 lenD) (fCons (fVar 3) fNil)) (fC (.int 2)))) (bNot (bTr (fIsi .tuple (fOp ixD (fVar 3) (fC (.int 1))))))))
    (gRet (fC (.bool false)))
    gNx)
    (gSeq (gTupS [4, 5] (fVar 3))
    (gSeq (gIf (bOf (fOp isNotD (fVar 4) (fC .none)))
    (gSeq (gSet 6 c2_is_paper)
    (gIf (bOr (bNot (bTr (fVar 6))) (bOr (bNot (bTr (fCallF F_counts (fCons (fVar 0) (fCons (fOp ixD (fOp ixD (fVar 6) (fC (.int 0))) (fC (.int 1))) fNil))))) (bNot (bTr (fCallF F_covers (fCons (fVar 0) (fCons (fOp ixD (fOp ixD (fVar 6) (fC (.int 0))) (fC (.int 1))) (fCons (fVar 1) fNil))))))))
    (gRet (fC (.bool false)))
    gNx))
    gNx)
    (gSeq (gSet 8 (fCallF F_later_marks (fCons (fVar 0) (fCons (fVar 2) (fCons (fVar 4) fNil)))))
    (gRet (vB (bAnd (bOf (fOp eqD (fCall (g1 lenD) (fCons (fVar 5) fNil)) (fCall (g1 lenD) (fCons (fVar 8) fNil)))) (bOf (fCall (g1 allD) (fCons c1_is_paper fNil))))))))))
def F_is_paper : List D → Rs D := fnD 11 [.da, .da, .da, .da] g_is_paper
def g__law_why : Fs := (gSeq (gSet 4 (fOp mulD (fLst (fCons (fC (.str "off")) fNil)) (fCall (g1 intD) (fCons (vB (bNot (bTr (fCallF F__law_counts (fCons (fVar 0) (fCons (fOp ixD (fVar 3) (fC (.int 1))) fNil)))))) fNil))))
    (gRet (fOp addD (fVar 4) (fOp mulD (fLst (fCons (fC (.str "apart")) fNil)) (fCall (g1 intD) (fCons (vB (bNot (bTr (fCallF F__law_covers (fCons (fVar 1) (fCons (fVar 3) (fCons (fVar 2) fNil))))))) fNil))))))
def F__law_why : List D → Rs D := fnD 5 [.da, .da, .da, .da] g__law_why
def b1__law_is_paper : Fs := (gSeq (gIf (bOr (bNot (bTr (fIsi .tuple (fVar 10)))) (bOr (bOf (fOp neD (fCall (g1 lenD) (fCons (fVar 10) fNil)) (fC (.int 2)))) (bOf (fOp neD (fOp ixD (fVar 10) (fC (.int 0))) (fOp ixD (fVar 8) (fC (.int 1)))))))
    (gRet (fC (.bool false)))
    gNx)
    (gIf (bOf (fOp notInD (fOp ixD (fVar 10) (fC (.int 1))) (fCallF F__law_why (fCons (fVar 0) (fCons (fVar 1) (fCons (fVar 2) (fCons (fVar 8) fNil)))))))
    (gRet (fC (.bool false)))
    gNx))
def c1__law_is_paper : Fe := (fLc [8] (fIt (fVar 5)) (ftN 8) (bOr (bOf (fOp isD (fOp ixD (fVar 4) (fC (.int 0))) (fC .none))) (bOf (fOp gtD (fOp ixD (fVar 8) (fC (.int 1))) (fOp ixD (fVar 4) (fC (.int 0)))))) (fVar 8))
def c2__law_is_paper : Fe := (fLc [8] (fIt (fVar 5)) (ftN 8) (bOf (fOp eqD (fOp ixD (fVar 8) (fC (.int 1))) (fOp ixD (fVar 4) (fC (.int 0))))) (fVar 8))
def c3__law_is_paper : Fe := (fLc [6] (fIt (fVar 0)) (ftN 6) (bAnd (bOf (fOp eqD (fOp ixD (fVar 6) (fC (.int 0))) (fC (.str "mark")))) (bOf (fOp eqD (fOp ixD (fVar 6) (fC (.int 2))) (fVar 3)))) (fVar 6))
def g__law_is_paper : Fs := (gSeq (gIf (bOr (bNot (bTr (fIsi .tuple (fVar 4)))) (bOr (bOf (fOp neD (fCall (g1 lenD) (fCons (fVar 4) fNil)) (fC (.int 2)))) (bNot (bTr (fIsi .tuple (fOp ixD (fVar 4) (fC (.int 1))))))))
    (gRet (fC (.bool false)))
    gNx)
    (gSeq (gSet 5 c3__law_is_paper)
    (gSeq (gIf (bOf (fOp isNotD (fOp ixD (fVar 4) (fC (.int 0))) (fC .none)))
    (gSeq (gSet 7 c2__law_is_paper)
    (gIf (bOr (bOf (fOp eqD (fVar 7) (fLst fNil))) (bOf (fOp neD (fCallF F__law_why (fCons (fVar 0) (fCons (fVar 1) (fCons (fVar 2) (fCons (fOp ixD (fVar 7) (fC (.int 0))) fNil))))) (fLst fNil))))
    (gRet (fC (.bool false)))
    gNx))
    gNx)
    (gSeq (gSet 9 c1__law_is_paper)
    (gSeq (gIf (bOf (fOp neD (fCall (g1 lenD) (fCons (fVar 9) fNil)) (fCall (g1 lenD) (fCons (fOp ixD (fVar 4) (fC (.int 1))) fNil))))
    (gRet (fC (.bool false)))
    gNx)
    (gSeq (gFor (fZipM (fVar 9) (fOp ixD (fVar 4) (fC (.int 1)))) (ftT [8, 10]) b1__law_is_paper)
    (gRet (fC (.bool true)))))))))
def F__law_is_paper : List D → Rs D := fnD 11 [.da, .da, .da, .da, .da] g__law_is_paper
def c1__law_is_all_marked : Fe := (fLc [7] (fIt (fCallF F_spans (fCons (fVar 6) fNil))) (ftN 7) (bOf (fOp neD (fSl (fVar 7) (foSome (fC (.int 1))) foNo) (fTup (fCons (fC (.bool true)) (fCons (fC (.str "q")) fNil))))) (fVar 7))
def g__law_is_all_marked : Fs := (gSeq (gPar 3 4 (fTup (fCons (fVar 2) (fCons (fC (.str "m")) fNil))) (fTup (fCons (fVar 2) (fCons (fC (.str "n")) fNil))))
    (gSeq (gSet 5 (fTup (fCons (fC (.str "mark")) (fCons (fVar 3) (fCons (fC (.str "bold")) (fCons (fOp ixD (fVar 1) (fC (.int 0))) (fCons (fC .none) (fCons (fC (.bool true)) fNil))))))))
    (gSeq (gSet 6 (fOp addD (fVar 0) (fTup (fCons (fVar 5) (fCons (fTup (fCons (fC (.str "mark")) (fCons (fVar 4) (fCons (fC (.str "link")) (fCons (fOp ixD (fVar 1) (fC (.int 0))) (fCons (fOp ixD (fVar 1) (fNeg (fC (.int 1)))) (fCons (fC (.str "q")) fNil))))))) fNil)))))
    (gSeq (gIf (bOr (bOf (fOp neD c1__law_is_all_marked (fLst fNil))) (bOf (fOp neD (fCallF F_text (fCons (fVar 6) fNil)) (fCallF F_text (fCons (fVar 0) fNil)))))
    (gRet (fC (.bool false)))
    gNx)
    (gSeq (gSet 8 (fOp addD (fVar 6) (fTup (fCons (fTup (fCons (fC (.str "off")) (fCons (fTup (fCons (fOp addD (fVar 2) (fC (.int 1))) (fCons (fC (.str "a")) fNil))) (fCons (fVar 3) fNil)))) (fCons (fTup (fCons (fC (.str "off")) (fCons (fTup (fCons (fOp addD (fVar 2) (fC (.int 1))) (fCons (fC (.str "b")) fNil))) (fCons (fVar 4) fNil)))) fNil)))))
    (gSeq (gSet 9 (fOp addD (fVar 8) (fTup (fCons (fTup (fCons (fC (.str "on")) (fCons (fTup (fCons (fOp addD (fVar 2) (fC (.int 2))) (fCons (fC (.str "a")) fNil))) (fCons (fVar 3) fNil)))) (fCons (fTup (fCons (fC (.str "on")) (fCons (fTup (fCons (fOp addD (fVar 2) (fC (.int 3))) (fCons (fC (.str "a")) fNil))) (fCons (fVar 4) fNil)))) fNil)))))
    (gRet (vB (bAnd (bOf (fOp eqD (fCallF F_spans (fCons (fVar 8) fNil)) (fCallF F_spans (fCons (fVar 0) fNil)))) (bOf (fOp eqD (fCallF F_spans (fCons (fVar 9) fNil)) (fCallF F_spans (fCons (fVar 6) fNil)))))))))))))
def F__law_is_all_marked : List D → Rs D := fnD 10 [.da, .da, .da] g__law_is_all_marked
def b1__law_is_told : Fs := (gExt 4 (fOp mulD (fLst (fCons (fSl (fVar 5) (foSome (fC (.int 1))) foNo) fNil)) (fCall (g1 lenD) (fCons (fOp ixD (fVar 5) (fC (.int 0))) fNil))))
def b2__law_is_told : Fs := (gIf (bOf (fOp isNotD (fCallF F_is_paper (fCons (fVar 0) (fCons (fVar 2) (fCons (fVar 3) (fCons (fCallF F_paper (fCons (fVar 0) (fCons (fVar 2) (fCons (fVar 3) fNil)))) fNil))))) (fC (.bool true))))
    (gRet (fC (.bool false)))
    gNx)
def b3__law_is_told : Fs := (gSeq (gFor (fIt (fTup (fCons (fC (.str "bold")) (fCons (fC (.str "link")) fNil)))) (ftN 3) b2__law_is_told)
    (gIf (bTr (fCallF F_is_shown (fCons (fVar 0) (fCons (fVar 2) fNil))))
    (gApp 1 (fTup (fCons (fCallF F_value (fCons (fVar 0) (fCons (fVar 2) (fCons (fC (.str "bold")) fNil)))) (fCons (fCallF F_value (fCons (fVar 0) (fCons (fVar 2) (fCons (fC (.str "link")) fNil)))) fNil))))
    gNx))
def g__law_is_told : Fs := (gSeq (gOwn 1 (fLst fNil))
    (gSeq (gFor (fIt (fCallF F_order (fCons (fVar 0) fNil))) (ftN 2) b3__law_is_told)
    (gSeq (gOwn 4 (fLst fNil))
    (gSeq (gFor (fIt (fCallF F_spans (fCons (fVar 0) fNil))) (ftN 5) b1__law_is_told)
    (gRet (vB (bAnd (bOf (fOp eqD (fSn 4) (fSn 1))) (bOf (fOp eqD (fCall (g1 lenD) (fCons (fCallF F_text (fCons (fVar 0) fNil)) fNil)) (fCall (g1 lenD) (fCons (fSn 1) fNil)))))))))))
def F__law_is_told : List D → Rs D := fnD 6 [.da] g__law_is_told
def c1_joined : Fe := (fLc [4] (fIt (fCall (g1 sortedD) (fCons (fVar 2) fNil))) (ftN 4) tYesF (fOp ixD (fVar 2) (fVar 4)))
def c2_joined : Fe := (fLc [3] (fIt (fOp addD (fVar 0) (fVar 1))) (ftN 3) tYesF (fTup (fCons (fOp ixD (fVar 3) (fC (.int 1))) (fCons (fVar 3) fNil))))
def g_joined : Fs := (gSeq (gSet 2 (fCall (g1 dictD) (fCons c2_joined fNil)))
    (gRet (fCall (g1 tupleD) (fCons c1_joined fNil))))
def F_joined : List D → Rs D := fnD 5 [.da, .da] g_joined
def c1_unknown : Fe := (fLc [3] (fIt (fVar 1)) (ftN 3) (bOf (fOp notInD (fOp ixD (fVar 3) (fC (.int 1))) (fVar 2))) (fVar 3))
def c2_unknown : Fe := (fLc [3] (fIt (fVar 0)) (ftN 3) tYesF (fTup (fCons (fOp ixD (fVar 3) (fC (.int 1))) (fCons (fC (.bool true)) fNil))))
def g_unknown : Fs := (gSeq (gSet 2 (fCall (g1 dictD) (fCons c2_unknown fNil)))
    (gRet (fCall (g1 tupleD) (fCons c1_unknown fNil))))
def F_unknown : List D → Rs D := fnD 4 [.da, .da] g_unknown
def c1_by : Fe := (fLc [2] (fIt (fVar 0)) (ftN 2) (bOf (fOp eqD (fOp ixD (fOp ixD (fVar 2) (fC (.int 1))) (fC (.int 1))) (fVar 1))) (fVar 2))
def g_by : Fs := (gRet (fCall (g1 tupleD) (fCons c1_by fNil)))
def F_by : List D → Rs D := fnD 3 [.da, .da] g_by
def c1__law_parts : Fe := (fLc [10] (fIt (fCall (g1 sortedD) (fCons (fSn 4) fNil))) (ftN 10) tYesF (fOp ixD (fSn 4) (fVar 10)))
def c2__law_parts : Fe := (fLc [9] (fIt (fVar 7)) (ftN 9) (bAnd (bOf (fOp isNotD (fVar 9) (fC .none))) (bOf (fOp notInD (fVar 9) (fSn 4)))) (fVar 9))
def b1__law_parts : Fs := (gSeq (gSet 7 (fIf (bOf (fOp eqD (fOp ixD (fVar 6) (fC (.int 0))) (fC (.str "mark")))) (fSl (fVar 6) (foSome (fC (.int 3))) (foSome (fC (.int 5)))) (fSl (fVar 6) (foSome (fC (.int 2))) (foSome (fC (.int 3))))))
    (gSeq (gSet 8 c2__law_parts)
    (gIf (bAnd (bOf (fOp eqD (fVar 8) (fLst fNil))) (bOf (fOp gtD (fCallF F__law_mix (fCons (fOp addD (fOp addD (fVar 0) (fOp mulD (fC (.int 7)) (fVar 5))) (fVar 3)) (fCons (fC (.int 9811)) (fCons (fC (.int 4)) fNil)))) (fC (.int 0)))))
    (gDput 4 (fOp ixD (fVar 6) (fC (.int 1))) (fVar 6))
    gNx)))
def b2__law_parts : Fs := (gSeq (gOwn 4 (fC (.dict [])))
    (gSeq (gFor (fEnum (fVar 1)) (ftT [5, 6]) b1__law_parts)
    (gApp 2 (fCall (g1 tupleD) (fCons c1__law_parts fNil)))))
def g__law_parts : Fs := (gSeq (gOwn 2 (fLst fNil))
    (gSeq (gFor (fIt (fTup (fCons (fC (.int 0)) (fCons (fC (.int 1)) fNil)))) (ftN 3) b2__law_parts)
    (gRetO 2)))
def F__law_parts : List D → Rs D := fnD 11 [.da, .da] g__law_parts
def b1__wall : Fs := gNx
def g__wall : Fs := (gWhile (fun _ => 2000) (bTr (fC (.bool true))) b1__wall)
def F__wall : List D → Rs D := fnD 1 [.da] g__wall
def c1__law_turn : Fe := (fLc [5] (rng1 (fOp addD (fC (.int 1)) (fCallF F__law_mix (fCons (fVar 0) (fCons (fC (.int 9787)) (fCons (fC (.int 3)) fNil)))))) (ftN 5) tYesF (fCallF F__law_letter (fCons (fOp addD (fVar 0) (fOp mulD (fC (.int 3)) (fVar 5))) fNil)))
def g__law_turn : Fs := (gSeq (gSet 2 (fCallF F__law_mix (fCons (fVar 0) (fCons (fC (.int 9803)) (fCons (fC (.int 12)) fNil)))))
    (gSeq (gSet 3 (fCallF F__law_mix (fCons (fVar 0) (fCons (fC (.int 9791)) (fCons (fOp addD (fVar 1) (fC (.int 1))) fNil)))))
    (gSeq (gIf (bOf (fOp ltD (fVar 2) (fC (.int 5))))
    (gSeq (gSet 4 (fOp joinD (fStr (fC (.str ""))) c1__law_turn))
    (gRet (fTup (fCons (fC (.str "write")) (fCons (fOp addD (fVar 3) (fOp mulD (fOp addD (fVar 1) (fC (.int 2))) (fCall (g1 intD) (fCons (vB (bAnd (bOf (fOp eqD (fVar 2) (fC (.int 4)))) (bOf (fOp eqD (fOp modD (fVar 0) (fC (.int 3))) (fC (.int 0)))))) fNil)))) (fCons (fVar 4) fNil))))))
    gNx)
    (gSeq (gIf (bOf (fOp ltD (fVar 2) (fC (.int 7))))
    (gRet (fTup (fCons (fC (.str "cut")) (fCons (fVar 3) (fCons (fOp addD (fC (.int 1)) (fCallF F__law_mix (fCons (fVar 0) (fCons (fC (.int 9781)) (fCons (fC (.int 2)) fNil))))) fNil)))))
    gNx)
    (gSeq (gIf (bOf (fOp ltD (fVar 2) (fC (.int 10))))
    (gSeq (gSet 6 (fOp ixD (fTup (fCons (fC (.str "bold")) (fCons (fC (.str "link")) fNil))) (fCallF F__law_mix (fCons (fVar 0) (fCons (fC (.int 9769)) (fCons (fC (.int 2)) fNil))))))
    (gRet (fTup (fCons (fC (.str "mark")) (fCons (fVar 6) (fCons (fVar 3) (fCons (fCallF F__law_mix (fCons (fVar 0) (fCons (fC (.int 9767)) (fCons (fC (.int 5)) fNil)))) (fCons (fCallF F__law_value (fCons (fOp addD (fVar 0) (fC (.int 1))) (fCons (fVar 6) fNil))) fNil))))))))
    gNx)
    (gRet (fIf (bOf (fOp eqD (fVar 2) (fC (.int 10)))) (fTup (fCons (fC (.str "back")) fNil)) (fTup (fCons (fC (.str "forth")) fNil)))))))))
def F__law_turn : List D → Rs D := fnD 7 [.da, .da] g__law_turn
def c1__law_speaks : Fe := (fLc [2] (fIt (fVar 1)) (ftN 2) (bOf (fOp isNotD (fVar 2) (fC .none))) (fVar 2))
def g__law_speaks : Fs := (gSeq (gSet 1 (fIf (bOf (fOp eqD (fOp ixD (fVar 0) (fC (.int 0))) (fC (.str "mark")))) (fSl (fVar 0) (foSome (fC (.int 3))) (foSome (fC (.int 5)))) (fSl (fVar 0) (foSome (fC (.int 2))) (foSome (fC (.int 3))))))
    (gRet c1__law_speaks))
def F__law_speaks : List D → Rs D := fnD 3 [.da] g__law_speaks
def c1__law_known : Fe := (fLc [5] (fIt (fCallF F__law_speaks (fCons (fVar 3) fNil))) (ftN 5) (bOf (fOp notInD (fVar 5) (fSn 2))) (fVar 5))
def b1__law_known : Fs := (gIf (bOf (fOp eqD c1__law_known (fLst fNil)))
    (gDput 2 (fOp ixD (fVar 3) (fC (.int 1))) (fVar 3))
    gNx)
def b2__law_known : Fs := (gFor (fIt (fVar 0)) (ftN 3) b1__law_known)
def c2__law_known : Fe := (fLc [3] (fIt (fVar 1)) (ftN 3) tYesF (fTup (fCons (fOp ixD (fVar 3) (fC (.int 1))) (fCons (fVar 3) fNil))))
def g__law_known : Fs := (gSeq (gOwn 2 (fCall (g1 dictD) (fCons c2__law_known fNil)))
    (gSeq (gFor (rng1 (fCall (g1 lenD) (fCons (fVar 0) fNil))) (ftN 4) b2__law_known)
    (gRetO 2)))
def F__law_known : List D → Rs D := fnD 6 [.da, .da] g__law_known
def g_part_text : Fs := (gSeq (gIf (bOf (fOp isD (fVar 0) (fC .none)))
    (gRet (fC (.str "-")))
    gNx)
    (gSeq (gIf (bTr (fIsi .bool (fVar 0)))
    (gRet (fIf (bTr (fVar 0)) (fC (.str "yes")) (fC (.str "no"))))
    gNx)
    (gSeq (gIf (bTr (fIsi .tuple (fVar 0)))
    (gRet (fOp addD (fCall (g1 strD) (fCons (fOp ixD (fVar 0) (fC (.int 0))) fNil)) (fOp ixD (fVar 0) (fC (.int 1)))))
    gNx)
    (gRet (fVar 0)))))
def F_part_text : List D → Rs D := fnD 1 [.da] g_part_text
def c1_row_of : Fe := (fLc [2] (fIt (fVar 0)) (ftN 2) tYesF (fCallF F_part_text (fCons (fVar 2) fNil)))
def g_row_of : Fs := (gSeq (gOwn 1 c1_row_of)
    (gSeq (gIf (bOf (fOp eqD (fOp ixD (fVar 0) (fC (.int 0))) (fC (.str "write"))))
    (gSetI 1 (fC (.int 3)) (fOp addD (fOp addD (fC (.str "\"")) (fOp ixD (fVar 0) (fC (.int 3)))) (fC (.str "\""))))
    gNx)
    (gRet (fOp joinD (fStr (fC (.str " "))) (fSn 1)))))
def F_row_of : List D → Rs D := fnD 3 [.da] g_row_of
def c1_written : Fe := (fLc [1] (fIt (fVar 0)) (ftN 1) tYesF (fOp addD (fCallF F_row_of (fCons (fVar 1) fNil)) (fC (.str "\n"))))
def g_written : Fs := (gRet (fOp joinD (fStr (fC (.str ""))) c1_written))
def F_written : List D → Rs D := fnD 2 [.da] g_written
def g__law_part : Fs := (gSeq (gIf (bOf (fOp isD (fVar 0) (fC .none)))
    (gRet (fC (.str "-")))
    gNx)
    (gSeq (gIf (bTr (fIsi .bool (fVar 0)))
    (gRet (fOp ixD (fTup (fCons (fC (.str "no")) (fCons (fC (.str "yes")) fNil))) (fCall (g1 intD) (fCons (fVar 0) fNil))))
    gNx)
    (gRet (fIf (bTr (fIsi .tuple (fVar 0))) (fOp addD (fCall (g1 strD) (fCons (fOp ixD (fVar 0) (fC (.int 0))) fNil)) (fOp ixD (fVar 0) (fC (.int 1)))) (fVar 0)))))
def F__law_part : List D → Rs D := fnD 1 [.da] g__law_part
def c1__law_written : Fe := (fLc [4] (fIt (fVar 2)) (ftN 4) tYesF (fCallF F__law_part (fCons (fVar 4) fNil)))
def b1__law_written : Fs := (gSeq (gOwn 3 c1__law_written)
    (gSeq (gIf (bOf (fOp eqD (fOp ixD (fVar 2) (fC (.int 0))) (fC (.str "write"))))
    (gSetI 3 (fC (.int 3)) (fOp addD (fOp addD (fC (.str "\"")) (fOp ixD (fVar 2) (fC (.int 3)))) (fC (.str "\""))))
    gNx)
    (gSet 1 (fOp addD (fOp addD (fVar 1) (fOp joinD (fStr (fC (.str " "))) (fSn 3))) (fC (.str "\n"))))))
def g__law_written : Fs := (gSeq (gSet 1 (fC (.str "")))
    (gSeq (gFor (fIt (fVar 0)) (ftN 2) b1__law_written)
    (gRet (fVar 1))))
def F__law_written : List D → Rs D := fnD 5 [.da] g__law_written
def c1__law_later : Fe := (fLc [5] (fIt (fVar 3)) (ftN 5) tYesF (fIf (bTr (fIsi .tuple (fVar 5))) (fTup (fCons (fOp addD (fOp ixD (fVar 5) (fC (.int 0))) (fVar 1)) (fCons (fOp ixD (fVar 5) (fC (.int 1))) fNil))) (fVar 5)))
def b1__law_later : Fs := (gSeq (gSet 4 c1__law_later)
    (gApp 2 (fCall (g1 tupleD) (fCons (fVar 4) fNil))))
def g__law_later : Fs := (gSeq (gOwn 2 (fLst fNil))
    (gSeq (gFor (fIt (fVar 0)) (ftN 3) b1__law_later)
    (gRet (fCall (g1 tupleD) (fCons (fSn 2) fNil)))))
def F__law_later : List D → Rs D := fnD 6 [.da, .da] g__law_later
def b1__law_stamp : Fs := (gSet 3 (fOp addD (fOp mulD (fC (.int 10)) (fVar 3)) (fOp indexD (fLs (fVar 1)) (fVar 2))))
def c1__law_stamp : Fe := (fLc [2] (fIt (fSl (fVar 0) foNo (foSome (fNeg (fC (.int 1)))))) (ftN 2) (bOf (fOp notInD (fVar 2) (fVar 1))) (fVar 2))
def g__law_stamp : Fs := (gSeq (gIf (bOf (fOp eqD (fVar 0) (fC (.str "-"))))
    (gRet (fC .none))
    gNx)
    (gSeq (gSet 1 (fC (.str "0123456789")))
    (gSeq (gIf (bOr (bNot (bChain ltD ltD (fC (.int 1)) (fCall (g1 lenD) (fCons (fVar 0) fNil)) (fC (.int 11)))) (bOf (fOp neD c1__law_stamp (fLst fNil))))
    (gRet (fC (.bool false)))
    gNx)
    (gSeq (gSet 3 (fC (.int 0)))
    (gSeq (gFor (fIt (fSl (fVar 0) foNo (foSome (fNeg (fC (.int 1)))))) (ftN 2) b1__law_stamp)
    (gRet (fTup (fCons (fVar 3) (fCons (fOp ixD (fVar 0) (fNeg (fC (.int 1)))) fNil)))))))))
def F__law_stamp : List D → Rs D := fnD 4 [.da] g__law_stamp
def c1__law_deed : Fe := (fLc [5] (fIt (fSl (fVar 1) (foSome (fC (.int 1))) foNo)) (ftN 5) tYesF (fCallF F__law_stamp (fCons (fVar 5) fNil)))
def g__law_deed : Fs := (gSeq (gSet 1 (fOp splD (fStr (fVar 0)) (fC (.str " "))))
    (gSeq (gIf (bAnd (bOf (fOp eqD (fOp ixD (fVar 1) (fC (.int 0))) (fC (.str "write")))) (bOf (fOp gtD (fCall (g1 lenD) (fCons (fVar 1) fNil)) (fC (.int 3)))))
    (gSeq (gSet 2 (fOp joinD (fStr (fC (.str " "))) (fSl (fVar 1) (foSome (fC (.int 3))) foNo)))
    (gSeq (gSet 3 (fIf (bOf (fOp eqD (fCall (g1 lenD) (fCons (fVar 2) fNil)) (fC (.int 3)))) (fSl (fVar 2) (foSome (fC (.int 1))) (foSome (fC (.int 2)))) (fC (.str ""))))
    (gRet (fTup (fCons (fC (.str "write")) (fCons (fCallF F__law_stamp (fCons (fOp ixD (fVar 1) (fC (.int 1))) fNil)) (fCons (fCallF F__law_stamp (fCons (fOp ixD (fVar 1) (fC (.int 2))) fNil)) (fCons (fVar 3) fNil))))))))
    gNx)
    (gSeq (gIf (bAnd (bOf (fOp eqD (fOp ixD (fVar 1) (fC (.int 0))) (fC (.str "mark")))) (bOf (fOp eqD (fCall (g1 lenD) (fCons (fVar 1) fNil)) (fC (.int 6)))))
    (gSeq (gSet 4 (fOp ixD (fVar 1) (fC (.int 5))))
    (gSeq (gIf (bOf (fOp eqD (fOp ixD (fVar 1) (fC (.int 2))) (fC (.str "bold"))))
    (gSet 4 (fUn (getD2 "yes" "no" (.bool true) (.bool false)) (fVar 4)))
    (gIf (bOf (fOp eqD (fVar 4) (fC (.str "-"))))
    (gSet 4 (fC .none))
    gNx))
    (gRet (fTup (fCons (fC (.str "mark")) (fCons (fCallF F__law_stamp (fCons (fOp ixD (fVar 1) (fC (.int 1))) fNil)) (fCons (fOp ixD (fVar 1) (fC (.int 2))) (fCons (fCallF F__law_stamp (fCons (fOp ixD (fVar 1) (fC (.int 3))) fNil)) (fCons (fCallF F__law_stamp (fCons (fOp ixD (fVar 1) (fC (.int 4))) fNil)) (fCons (fVar 4) fNil))))))))))
    gNx)
    (gRet (fOp addD (fTup (fCons (fOp ixD (fVar 1) (fC (.int 0))) fNil)) (fCall (g1 tupleD) (fCons c1__law_deed fNil)))))))
def F__law_deed : List D → Rs D := fnD 6 [.da] g__law_deed
end Hm.Fn
/-! Hm21: how the parts of a plain def are reckoned -/
namespace Hm
open PySem

section
variable (i : Nat) (δ : Dl) (f g : Fe) (c c' : Ft) (h : Fa) (d : D)
@[simp] theorem fC_e : fC d δ = .ok d := rfl
@[simp] theorem fNil_e : fNil δ = .ok [] := rfl
@[simp] theorem fCons_e : fCons f h δ = (f δ >>= fun x => h δ >>= fun xs => .ok (x :: xs)) := rfl
@[simp] theorem fTup_e : fTup h δ = (h δ >>= fun xs => Rs.need (fits xs.length) >>= fun _ => .ok (.tuple xs)) := rfl
@[simp] theorem fLst_e : fLst h δ = (h δ >>= fun xs => Rs.need (fits xs.length) >>= fun _ => .ok (.list xs)) := rfl
@[simp] theorem fOp_e (o : D → D → Option D) : fOp o f g δ = (f δ >>= fun x => g δ >>= fun y => Rs.of (o x y)) := rfl
@[simp] theorem fCall_e (o : List D → Option D) : fCall o h δ = (h δ >>= fun ds => Rs.of (o ds)) := rfl
@[simp] theorem fCallF_e (F : List D → Rs D) : fCallF F h δ = (h δ >>= fun ds => noX (F ds)) := rfl
@[simp] theorem g1_e (o : D → Option D) : g1 o [d] = o d := rfl
@[simp] theorem bOf_e : bOf f δ = (f δ >>= fun d => Rs.of (blOf d)) := rfl
@[simp] theorem bTr_e : bTr f δ = (f δ >>= fun d => Rs.of (truD d)) := rfl
@[simp] theorem vB_e : vB c δ = (c δ >>= fun b => .ok (.bool b)) := rfl
@[simp] theorem bAnd_e : bAnd c c' δ = (c δ >>= fun x => if x = true then c' δ else .ok false) := rfl
@[simp] theorem bOr_e : bOr c c' δ = (c δ >>= fun x => if x = true then .ok true else c' δ) := rfl
@[simp] theorem bNot_e : bNot c δ = (c δ >>= fun x => .ok (!x)) := rfl
@[simp] theorem fIf_e : fIf c f g δ = (c δ >>= fun x => if x = true then f δ else g δ) := rfl
@[simp] theorem fIsi_e (t : Ty5) : fIsi t f δ = (f δ >>= fun d => Rs.of (isiB t d) >>= fun b => .ok (.bool b)) := rfl
@[simp] theorem fIsi2_e (t u : Ty5) : fIsi2 t u f δ = (f δ >>= fun d => Rs.of (isiB t d) >>= fun b => Rs.of (isiB u d) >>= fun c => .ok (.bool (b || c))) := rfl
@[simp] theorem fNeg_e : fNeg f δ = (f δ >>= fun d => Rs.of (intOf d) >>= fun i => .ok (.int (-i))) := rfl
@[simp] theorem fRev_e : fRev f δ = (f δ >>= fun d => Rs.of (revD d)) := rfl
@[simp] theorem fZip_e : fZip f g δ = (f δ >>= fun d => g δ >>= fun d' => Rs.of (zipD d d')) := rfl
@[simp] theorem fIt_e : fIt f δ = (f δ >>= fun d => Rs.of (itemsOf d)) := rfl
@[simp] theorem foNo_e : foNo δ = .ok none := rfl
@[simp] theorem foSome_e : foSome f δ = (f δ >>= fun d => Rs.of (intOf d) >>= fun i => .ok (some i)) := rfl
@[simp] theorem fSl_e (l u : Fo) : fSl f l u δ = (f δ >>= fun d => l δ >>= fun x => u δ >>= fun y => Rs.of (slD d x y)) := rfl
@[simp] theorem tYesF_e : tYesF δ = .ok true := rfl
@[simp] theorem rng1_e : rng1 f δ = (f δ >>= fun d => Rs.of (intOf d) >>= fun n => Rs.need (small62 n) >>= fun _ => .ok (rangeD 0 n.toNat)) := rfl
@[simp] theorem rng2_e : rng2 f g δ = (f δ >>= fun d => g δ >>= fun d' => Rs.of (intOf d) >>= fun i => Rs.of (intOf d') >>= fun j => Rs.need (small62 i) >>= fun _ => Rs.need (small62 j) >>= fun _ => .ok (rangeD i (j - i).toNat)) := rfl
@[simp] theorem bChain_e (o o' : D → D → Option D) (k : Fe) : bChain o o' f g k δ = (f δ >>= fun x => g δ >>= fun y => Rs.of (o x y) >>= fun r => Rs.of (blOf r) >>= fun b => if b = true then k δ >>= fun z => Rs.of (o' y z) >>= fun r => Rs.of (blOf r) else .ok false) := rfl
@[simp] theorem fGet_e (k x : Fe) : fGet f k x δ = (f δ >>= fun d => Rs.of (dicOf d) >>= fun kvs => k δ >>= fun k => Rs.of (keyOf k) >>= fun n => x δ >>= fun x => .ok ((dLook kvs n).getD x)) := rfl
@[simp] theorem need_true : Rs.need true = .ok () := rfl
@[simp] theorem noX_ok_e {t : Type} (x : t) : noX (.ok x) = .ok x := rfl
@[simp] theorem noX_bind {a b : Type} (r : Rs a) (k : a → Rs b) : noX (r >>= k) = (noX r >>= fun x => noX (k x)) := by cases r <;> rfl
@[simp] theorem noX_of {t : Type} (o : Option t) : noX (Rs.of o) = Rs.of o := by cases o <;> rfl
@[simp] theorem blOf_bool (b : Bool) : blOf (.bool b) = some b := rfl
@[simp] theorem truD_bool (b : Bool) : truD (.bool b) = some b := rfl
@[simp] theorem intOf_int (j : Int) : intOf (.int j) = some j := rfl
/-! ### slots -/
@[simp] theorem fVar_0 : fVar 0 (.dat d :: δ) = .ok d := rfl
@[simp] theorem fVar_s (s : Sl) : fVar (i + 1) (s :: δ) = fVar i δ := by unfold fVar; rw [List.getElem?_cons_succ]
@[simp] theorem fSn_0d : fSn 0 (.dat d :: δ) = .ok d := rfl
@[simp] theorem fSn_0p : fSn 0 (.par d :: δ) = .ok d := rfl
@[simp] theorem fSn_0o : fSn 0 (.own d :: δ) = .ok d := rfl
@[simp] theorem fSn_s (s : Sl) : fSn (i + 1) (s :: δ) = fSn i δ := by unfold fSn; rw [List.getElem?_cons_succ]
/-! ### statements -/
variable (a b : Fs)
@[simp] theorem gNx_e : gNx δ = .nx δ := rfl
theorem gIf_e : gIf c a b δ = So.of δ (fun x => if x = true then a δ else b δ) (c δ) := rfl
@[simp] theorem gIf_t (x : c δ = .ok true) : gIf c a b δ = a δ := by rw [gIf_e, x]; rfl
@[simp] theorem gIf_f (x : c δ = .ok false) : gIf c a b δ = b δ := by rw [gIf_e, x]; rfl
@[simp] theorem gRet_e : gRet f δ = So.of δ (fun d => .rt d δ) (f δ) := rfl
@[simp] theorem gSet_e : gSet i f δ = So.of δ (fun d => .nx (δ.set i (.dat d))) (f δ) := rfl
@[simp] theorem gOwn_e : gOwn i f δ = So.of δ (fun d => if isCont d = true then .nx (δ.set i (.own d)) else .bad) (f δ) := rfl
@[simp] theorem gOwn2_e : gOwn2 i δ = .nx (δ.set i (.own2 [])) := rfl
@[simp] theorem gFor_e (t : Ftg) : gFor h t a δ = So.of δ (fun ds => forS t a ds δ) (h δ) := rfl
@[simp] theorem gWhile_e (n : Dl → Nat) : gWhile n c a δ = whileS c a (n δ) δ := rfl
@[simp] theorem gPar_e (j : Nat) : gPar i j f g δ = So.of δ (fun d => So.of δ (fun d' => .nx ((δ.set i (.dat d)).set j (.dat d'))) (g δ)) (f δ) := rfl
@[simp] theorem gPar3L_e (j l : Nat) : gPar3L i j l δ = .nx (((δ.set i (.own (.list []))).set j (.own (.list []))).set l (.own (.list []))) := rfl
/-- what follows -/
def So.then (b : Fs) : So → So
  | .nx δ => b δ
  | r => r
@[simp] theorem gSeq_e : gSeq a b δ = So.then b (a δ) := by unfold gSeq So.then; cases a δ <;> rfl
@[simp] theorem then_nx : So.then b (.nx δ) = b δ := rfl
@[simp] theorem then_rt : So.then b (.rt d δ) = .rt d δ := rfl
@[simp] theorem then_bk : So.then b (.bk δ) = .bk δ := rfl
@[simp] theorem then_ct : So.then b (.ct δ) = .ct δ := rfl
@[simp] theorem then_bad : So.then b .bad = .bad := rfl
@[simp] theorem then_exc (x : Str) : So.then b (.exc x δ) = .exc x δ := rfl
theorem then_if (p : Prop) [Decidable p] (x y : So) : So.then b (if p then x else y) = if p then So.then b x else So.then b y := by split <;> rfl
@[simp] theorem fin_rt : So.fin (.rt d δ) = .ok d := rfl
@[simp] theorem fin_nx : So.fin (.nx δ) = .ok .none := rfl
theorem fin_if (p : Prop) [Decidable p] (x y : So) : So.fin (if p then x else y) = if p then So.fin x else So.fin y := by split <;> rfl
@[simp] theorem ftN_e (j : Nat) : ftN j d δ = some (δ.set j (.dat d)) := rfl
@[simp] theorem forS_nil (t : Ftg) : forS t a [] δ = .nx δ := rfl
/-- a turn of a loop, from how its body ended -/
def turnS (t : Ftg) (a : Fs) (ds : List D) : So → So
  | .nx δ2 => forS t a ds δ2
  | .ct δ2 => forS t a ds δ2
  | .bk δ2 => .nx δ2
  | r => r
theorem forS_cons (t : Ftg) (ds : List D) : forS t a (d :: ds) δ = match t d δ with | none => .bad | some δ1 => turnS t a ds (a δ1) := by
  show (match t d δ with | none => So.bad | some δ1 => _) = _
  cases t d δ with
  | none => rfl
  | some δ1 => dsimp only; cases a δ1 <;> rfl
@[simp] theorem turnS_nx (t : Ftg) (ds : List D) : turnS t a ds (.nx δ) = forS t a ds δ := rfl
@[simp] theorem turnS_ct (t : Ftg) (ds : List D) : turnS t a ds (.ct δ) = forS t a ds δ := rfl
@[simp] theorem turnS_rt (t : Ftg) (ds : List D) : turnS t a ds (.rt d δ) = .rt d δ := rfl
@[simp] theorem turnS_bk (t : Ftg) (ds : List D) : turnS t a ds (.bk δ) = .nx δ := rfl
theorem turn_if (t : Ftg) (ds : List D) (p : Prop) [Decidable p] (x y : So) : turnS t a ds (if p then x else y) = if p then turnS t a ds x else turnS t a ds y := by split <;> rfl
end
end Hm
/-! Hm27: the end: the top's facts by names, by a Hook -/
namespace Hm
open PySem PySem.Spec PyProof.Rows L2
/-- a flat value as data -/
def vData : Value → Option D
  | .none => some .none
  | .bool b => some (.bool b)
  | .int i _ => some (.int i)
  | .str x _ => some (.str x)
  | _ => none
def dataV : D → V
  | .none => .non
  | .bool b => .bl b
  | .int i => .int i
  | .str x => .str x
  | _ => .non
theorem vData_ok {K : PySem.W.Frag} {w : World} {H : Hp} {v : Value} {d : D} (h : vData v = some d) : RelV (dataV d) v ∧ Da K w H (dataV d) d := by
  cases v with
  | none => cases h; exact ⟨rfl, .non⟩
  | bool b => cases h; exact ⟨rfl, .bl b⟩
  | int i t => cases h; exact ⟨⟨t, rfl⟩, .int i⟩
  | str x t => cases h; exact ⟨⟨t, rfl⟩, .str x⟩
  | _ => cases h
def entD (e : DictEntry) : Option (Str × Int × D) := match e.key with
  | .str x _ => (match vData e.val with
    | some d => some (x, e.hash, d)
    | none => none)
  | _ => none
def dicX (K : PySem.W.Frag) (x : Str) : Option (List (Option (Str × Int × D))) := match K.lookup (He.ga K x) with
  | some ⟨.type c, none, .dict es _, sl⟩ => (match decide (c = "dict") && (sl.isEmpty && (!(He.ga K x == sysModules) && Nat.ble es.size 1000)) with
    | true => some (es.toList.map entD)
    | false => none)
  | _ => none
def tupX (K : PySem.W.Frag) (x : Str) : Option (List (Option D)) := match K.lookup (He.ga K x) with
  | some ⟨.type c, _, .seq its _, _⟩ => (match decide (c = "tuple") && Nat.ble its.size 1000 with
    | true => some (its.toList.map vData)
    | false => none)
  | _ => none
/-- a def of the text -/
def ddOf (p : Str × Stmt) : He.DefD := ⟨(p.1, none), p.1, p.1, defArgs p.2, defBody p.2, defScope p.2, [], []⟩
/-- what is looked at: defs; names that are not bound; texts; numbers; tuples; dicts; more -/
structure Cfg where
  df : List (Str × Stmt)
  me : List He.DefD := []
  fa : List He.Fa
  tu : List (Str × List D)
  di : List (Str × List (Str × D))
  bs : List (PySem.W.Frag → Bool) := []
def Cfg.fas (c : Cfg) : List He.Fa := c.df.map (fun p => .glo p.1) ++ c.fa
def Cfg.fns (c : Cfg) : List He.DefD := c.df.map ddOf ++ c.me
abbrev AlX : Type := He.AlD × List (Option (List (Option D))) × List (Option (List (Option (Str × Int × D)))) × Bool
def obsX (c : Cfg) (K : PySem.W.Frag) : AlX := (He.obsD c.fas c.fns K, c.tu.map (fun p => tupX K p.1), c.di.map (fun p => dicX K p.1), noList K && c.bs.all fun b => b K)
def valX (c : Cfg) (w : World) : AlX := (He.valD c.fns, c.tu.map (fun p => some (p.2.map some)), c.di.map (fun p => some (p.2.map fun q => some (q.1, PyData.keyHash w.params q.1, q.2))), true)
def SaysX (c : Cfg) (w : World) (K : PySem.W.Frag) : Prop := obsX c K = valX c w
def obsXG (n : Nat) (c : Cfg) (g : Addr → Option Obj) : AlX := obsX c (He.frG g (He.asD g n))
def hookX (n : Nat) (c : Cfg) : PySem.W.Hook where
  α := AlX
  obs := fun s => obsXG n c s.heap.get?
  val := fun w => valX c w
  says := fun w h => ∃ K : PySem.W.Frag, K.In h ∧ SaysX c w K
  of := fun _ _ e => ⟨_, He.frG_in, e⟩
  keeps := fun _ _ _ ⟨K, hK, c⟩ k => ⟨K, PySem.W.Frag.In.keeps hK k, c⟩
theorem obsXG_eq {n : Nat} {c : Cfg} {g : Addr → Option Obj} {s : Shared} (h : ∀ a, g a = s.heap.get? a) : obsXG n c g = (hookX n c).obs s := by
  have e : g = s.heap.get? := funext h
  rw [e] <;> rfl
section
variable {c : Cfg} {w : World} {K : PySem.W.Frag} {h : Heap} {mg : Str → Option Value}
theorem SaysX.d (s : SaysX c w K) : He.SaysD c.fas c.fns K := congrArg (fun z : AlX => z.1) s
theorem SaysX.nl (s : SaysX c w K) : noList K = true := (Bool.and_eq_true_iff.mp (congrArg (fun z : AlX => z.2.2.2) s)).1
theorem SaysX.bs (s : SaysX c w K) (i : Nat) {b : PySem.W.Frag → Bool} (hb : c.bs[i]? = some b := by rfl) : b K = true := List.all_eq_true.mp (Bool.and_eq_true_iff.mp (congrArg (fun z : AlX => z.2.2.2) s)).2 b (List.mem_of_getElem? hb)
theorem SaysX.df (s : SaysX c w K) (X : K.In h) (G : h.Ns mainGlobals mg) (i : Nat) {x : Str} {st : Stmt} {ps : List Str} (hi : c.df[i]? = some (x, st))
    (b : ∀ (kV doc pm : Value) (an : Option Addr) (cdv ct : Value) (us : List Value), us.length = ps.length → bindArgs (PySem.W.fnOf x x (defArgs st) (defBody st) (defScope st) .none kV doc pm an cdv ct) ⟨us, []⟩ = pure (ps.zip us)) : Df K mg x st ps := by
  have hl : i < c.df.length := (List.getElem?_eq_some_iff.mp hi).1
  have e1 : c.fns[i]? = some (ddOf (x, st)) := by
    unfold Cfg.fns
    rw [List.getElem?_append_left (by simpa using hl), List.getElem?_map, hi]; rfl
  have e2 : c.fas[i]? = some (.glo x) := by
    unfold Cfg.fas
    rw [List.getElem?_append_left (by simpa using hl), List.getElem?_map, hi]; rfl
  obtain ⟨fd, F⟩ := s.d.def_ i e1
  have hm := He.glo_ok X G (s.d.fact i e2)
  obtain ⟨⟨oc, od, dV, kV, doc, pm, an, cdv, ct, osl, rfl, lk, hcd, hdv, hkw⟩, kp⟩ := F
  have hd0 : dV = .none := by
    rcases hdv with ⟨_, z⟩ | ⟨z, _⟩
    · exact z
    · exact absurd rfl z
  subst hd0
  exact ⟨_, _, ⟨⟨oc, od, kV, doc, pm, an, cdv, ct, osl, rfl, lk, hcd⟩, kp⟩, hm, fun s us hl => .of_eq (b _ _ _ _ _ _ us hl)⟩
theorem SaysX.fa_ (s : SaysX c w K) (i : Nat) {f : He.Fa} (hi : c.fa[i]? = some f) : f.ok K = true := by
  refine s.d.fact (c.df.length + i) ?_
  unfold Cfg.fas
  rw [List.getElem?_append_right (by simp), List.length_map, Nat.add_sub_cancel_left, hi]
theorem SaysX.free (s : SaysX c w K) (X : K.In h) (G : h.Ns mainGlobals mg) (i : Nat) {x : Str} (hi : c.fa[i]? = some (.free x)) : mg x = none := He.free_ok X G (s.fa_ i hi)
theorem SaysX.str (s : SaysX c w K) (X : K.In h) (G : h.Ns mainGlobals mg) (i : Nat) {x z : Str} (hi : c.fa[i]? = some (.str x z)) : Gc K w mg x (.str z) := by
  obtain ⟨t, e⟩ := He.str_ok X G (s.fa_ i hi)
  exact ⟨_, .str z, e, ⟨t, rfl⟩, fun H => .str z⟩
theorem SaysX.int (s : SaysX c w K) (X : K.In h) (G : h.Ns mainGlobals mg) (i : Nat) {x : Str} {z : Int} (hi : c.fa[i]? = some (.int x z)) : Gc K w mg x (.int z) := by
  obtain ⟨t, e⟩ := He.int_ok X G (s.fa_ i hi)
  exact ⟨_, .int z, e, ⟨t, rfl⟩, fun H => .int z⟩
theorem tup_vals {K : PySem.W.Frag} {w : World} {H : Hp} : ∀ {us : List Value} {ds : List D}, us.map vData = ds.map some → Vals (ds.map dataV) us ∧ DaL K w H (ds.map dataV) ds
  | [], [], _ => ⟨.nil, .nil⟩
  | [], _ :: _, h => by cases h
  | _ :: _, [], h => by cases h
  | u :: us, d :: ds, h => by
    rw [List.map_cons, List.map_cons, List.cons.injEq] at h
    obtain ⟨h1, h2⟩ := vData_ok (K := K) (w := w) (H := H) h.1
    obtain ⟨h3, h4⟩ := tup_vals (K := K) (w := w) (H := H) h.2
    exact ⟨.cons h1 h3, .cons h2 h4⟩
theorem SaysX.tup (s : SaysX c w K) (X : K.In h) (G : h.Ns mainGlobals mg) (i j : Nat) {x : Str} {ds : List D} (hi : c.tu[i]? = some (x, ds)) (hj : c.fa[j]? = some (.glo x)) : Gc K w mg x (.tuple ds) := by
  have hm := He.glo_ok X G (s.fa_ j hj)
  have e : c.tu.map (fun p => tupX K p.1) = c.tu.map (fun p => some (p.2.map some)) := congrArg (fun z : AlX => z.2.1) s
  have e2 : (c.tu.map (fun p => tupX K p.1))[i]? = (c.tu.map (fun p => some (p.2.map some)))[i]? := by rw [e]
  rw [List.getElem?_map, List.getElem?_map, hi] at e2
  have e3 : tupX K x = some (ds.map some) := Option.some.inj e2
  unfold tupX at e3
  cases q : K.lookup (He.ga K x) with
  | none => rw [q] at e3; cases e3
  | some o =>
    obtain ⟨oc, od, dt, osl⟩ := o
    rw [q] at e3
    cases oc with
    | type cn =>
      cases dt with
      | seq its n =>
        have e4 : (match decide (cn = "tuple") && Nat.ble its.size 1000 with
          | true => some (its.toList.map vData)
          | false => none) = some (ds.map some) := e3
        cases z : decide (cn = "tuple") && Nat.ble its.size 1000 with
        | false => rw [z] at e4; cases e4
        | true =>
          rw [z] at e4
          obtain ⟨z1, z2⟩ := Bool.and_eq_true_iff.mp z
          have e5 : its.toList.map vData = ds.map some := Option.some.inj e4
          refine ⟨.ref (He.ga K x), .ref (He.ga K x), hm, rfl, fun H => ?_⟩
          obtain ⟨v1, v2⟩ := tup_vals (K := K) (w := w) (H := H) e5
          have hz : its.size ≤ sizeLine := by rw [sizeLine_eq]; have := Nat.le_of_ble_eq_true z2; omega
          exact .tup (.inr ⟨_, its, n, q, congrArg Value.type (of_decide_eq_true z1), rfl, hz, v1⟩) v2
      | _ => cases e3
    | _ => cases dt <;> cases e3
theorem dic_ents {K : PySem.W.Frag} {w : World} {H : Hp} : ∀ {es : List DictEntry} {qs : List (Str × D)}, es.map entD = qs.map (fun q => some (q.1, PyData.keyHash w.params q.1, q.2)) → DaE K w H es (qs.map fun q => (.str q.1, q.2))
  | [], [], _ => .nil
  | [], _ :: _, h => by cases h
  | _ :: _, [], h => by cases h
  | e :: es, q :: qs, h => by
    rw [List.map_cons, List.map_cons, List.cons.injEq] at h
    obtain ⟨h1, h2⟩ := h
    have ih := dic_ents (K := K) (w := w) (H := H) h2
    obtain ⟨eh, ek, ev⟩ := e
    unfold entD at h1
    cases ek with
    | str x t =>
      cases z : vData ev with
      | none => rw [z] at h1; cases h1
      | some d =>
        rw [z] at h1
        have h3 := Option.some.inj h1
        simp only [Prod.mk.injEq] at h3
        obtain ⟨rfl, h4, h5⟩ := h3
        obtain ⟨v1, v2⟩ := vData_ok (K := K) (w := w) (H := H) z
        rw [List.map_cons, ← h5, h4]
        exact .cons (k := .str q.1) (n := .text q.1) ⟨t, rfl⟩ (.str _) v1 v2 rfl ih
    | _ => cases h1
theorem SaysX.dic (s : SaysX c w K) (X : K.In h) (G : h.Ns mainGlobals mg) (i j : Nat) {x : Str} {qs : List (Str × D)} (hi : c.di[i]? = some (x, qs)) (hj : c.fa[j]? = some (.glo x)) (hn : ((qs.map fun q => ((.str q.1 : D), q.2)).map fun p => keyOf p.1).Nodup) : Gd K w mg x (qs.map fun q => (.str q.1, q.2)) := by
  have hm := He.glo_ok X G (s.fa_ j hj)
  have e : c.di.map (fun p => dicX K p.1) = c.di.map (fun p => some (p.2.map fun q => some (q.1, PyData.keyHash w.params q.1, q.2))) := congrArg (fun z : AlX => z.2.2.1) s
  have e2 : (c.di.map (fun p => dicX K p.1))[i]? = (c.di.map (fun p => some (p.2.map fun q => some (q.1, PyData.keyHash w.params q.1, q.2))))[i]? := by rw [e]
  rw [List.getElem?_map, List.getElem?_map, hi] at e2
  have e3 : dicX K x = some (qs.map fun q => some (q.1, PyData.keyHash w.params q.1, q.2)) := Option.some.inj e2
  unfold dicX at e3
  cases q : K.lookup (He.ga K x) with
  | none => rw [q] at e3; cases e3
  | some o =>
    obtain ⟨oc, od, dt, osl⟩ := o
    rw [q] at e3
    cases oc with
    | type cn =>
      cases od with
      | none =>
        cases dt with
        | dict es n =>
          have e4 : (match decide (cn = "dict") && (osl.isEmpty && (!(He.ga K x == sysModules) && Nat.ble es.size 1000)) with
            | true => some (es.toList.map entD)
            | false => none) = some (qs.map fun q => some (q.1, PyData.keyHash w.params q.1, q.2)) := e3
          cases z : decide (cn = "dict") && (osl.isEmpty && (!(He.ga K x == sysModules) && Nat.ble es.size 1000)) with
          | false => rw [z] at e4; cases e4
          | true =>
            rw [z] at e4
            obtain ⟨z1, z2⟩ := Bool.and_eq_true_iff.mp z
            obtain ⟨z3, z4⟩ := Bool.and_eq_true_iff.mp z2
            obtain ⟨z5, z6⟩ := Bool.and_eq_true_iff.mp z4
            have c1 : cn = "dict" := of_decide_eq_true z1
            have c2 : osl = #[] := Array.isEmpty_iff.mp z3
            have c3 : (He.ga K x == sysModules) = false := by
              cases y : He.ga K x == sysModules with
              | false => rfl
              | true => rw [y] at z5; cases z5
            subst c1 c2
            have e5 := Option.some.inj e4
            refine ⟨He.ga K x, es.toList, hm, fun h' X' => ⟨c3, ?_, _, n, X' _ _ q, ⟨rfl, rfl, rfl⟩, by simp⟩, fun H => dic_ents e5, hn⟩
            rw [sizeLine_eq]
            have := Nat.le_of_ble_eq_true z6
            simp; omega
        | _ => cases e3
      | some b => cases dt <;> cases e3
    | _ => cases od <;> cases dt <;> cases e3
end
theorem law_endX {l : PySem.W.OpenLaw} {k n : Nat} {q : Program} {loose : List Str} {XP : (Str → Option Value) → Heap → Prop} {d : DefRec} {c : Cfg} {F : List D → Rs D} (hn : l.most = some 63) (hdf : d.params.defaults = []) (hk : Room k callerA) (hd : d.name = ("law" : Str))
    (hF : ∀ ns : List Int, ns.length ≤ 63 → F [.list (ns.map PyData.int)] = .ok (.bool true))
    (hT : ∀ (w : World) (mg : Str → Option Value) (h : Heap) (K : PySem.W.Frag), K.In h → h.Ns mainGlobals mg → SaysX c w K → Ok l.prog w K mg "law" ["script"] k [.sn] F) :
    PySem.W.WalkO q loose XP (hookX n c).says l.row.toRowW d [] (fun f vs => PySem.call f vs) := by
  refine L2.walk_ofE (n := 63) (k := k) (x := "script") (CX := CX0) hn (by decide) hdf hk (fun w mg fa h Y G hmg => ?_) (fun _ _ _ _ z => z)
  obtain ⟨K, KX, s⟩ := Y
  rw [hd] at hmg
  obtain ⟨f, fd, hm, _, hb, hf⟩ := (hT w mg h K KX G s).ex
  rw [hmg] at hm
  cases hm
  refine ⟨K, fd, spLaw K, KX, fun s u => hb s [u] rfl, fun H a ns hl _ hS => ⟨a, ns, rfl, hS, hl, fun _ => rfl⟩, fun base _ _ => (hf base).imp fun vs H Q E ⟨a, ns, ev, hS, hl, q⟩ => ?_⟩
  subst ev
  refine ⟨_, .sn (sn_script s.nl hS) .nil, Rk.ok (hF ns hl) fun v H' _ hv => ?_⟩
  cases hv
  exact q H'
end Hm
/-! Pu0: draws, encodings -/
namespace Hm
open PySem PySem.SeqAt L2
def mix (c p m : Int) : Int := (c * 48271 % p) * (c * 48271 % p + 7) % p % m
theorem mulD_sm (i j : Int) (h : small j = true) : mulD (.int i) (.int j) = some (.int (i * j)) := by
  simp [mulD, h]
theorem mulD_sm' (i j : Int) (h : small i = true) : mulD (.int i) (.int j) = some (.int (i * j)) := by
  simp [mulD, h]
theorem modD_p (i j : Int) (h : 0 < j) : modD (.int i) (.int j) = some (.int (i % j)) := by
  simp [modD, h]
@[simp] theorem addD_i (i j : Int) : addD (.int i) (.int j) = some (.int (i + j)) := rfl
@[simp] theorem subD_i (i j : Int) : subD (.int i) (.int j) = some (.int (i - j)) := rfl
theorem small_mod (i p : Int) (h : 0 < p) (h2 : p < 2 ^ 64) : small (i % p) = true := by
  have := Int.emod_nonneg i (by omega : p ≠ 0)
  have := Int.emod_lt_of_pos i h
  exact decide_eq_true (by omega)
theorem mix_range (c p m : Int) (hm : 0 < m) : 0 ≤ mix c p m ∧ mix c p m < m := ⟨Int.emod_nonneg _ (by omega), Int.emod_lt_of_pos _ hm⟩
theorem F_mix (c p m : Int) (hp : 0 < p) (hp2 : p < 2 ^ 64) (hm : 0 < m) : Fn.F__law_mix [.int c, .int p, .int m] = .ok (.int (mix c p m)) := by
  simp [Fn.F__law_mix, fnD, Fn.g__law_mix, startD, stSl, mulD_sm _ 48271 (by decide), modD_p, hp, hm, mulD_sm' _ _ (small_mod _ p hp hp2), mix, List.replicate]

/-! ### places -/
theorem atI_nat {t : Type} (xs : List t) (i : Int) (h : 0 ≤ i) : atI xs i = xs[i.toNat]? := by
  unfold atI ixN
  by_cases hl : i < xs.length
  · simp [h, hl]
  · have : xs[i.toNat]? = none := by rw [List.getElem?_eq_none_iff]; omega
    simp [h, hl, this]
theorem atI_mem {t : Type} (xs : List t) (i : Int) (h : 0 ≤ i) (h2 : i < xs.length) : ∃ x ∈ xs, atI xs i = some x := by
  rw [atI_nat xs i h]
  have hl : i.toNat < xs.length := by omega
  exact ⟨xs[i.toNat], List.getElem_mem hl, List.getElem?_eq_getElem hl⟩
theorem atI_last {t : Type} (xs : List t) (x : t) : atI (xs ++ [x]) (-1) = some x := by
  unfold atI ixN
  rw [if_neg (by decide), if_pos (by simp; omega)]
  have : (-1 + ((xs ++ [x]).length : Int)).toNat = xs.length := by simp; omega
  simp only [Option.bind_some, this]
  simp
@[simp] theorem ixD_t (xs : List D) (i : Int) : ixD (.tuple xs) (.int i) = atI xs i := rfl
@[simp] theorem ixD_l (xs : List D) (i : Int) : ixD (.list xs) (.int i) = atI xs i := rfl
@[simp] theorem atI_0 {t : Type} (x : t) (xs : List t) : atI (x :: xs) 0 = some x := by rw [atI_nat _ _ (by decide)]; rfl
@[simp] theorem atI_1 {t : Type} (x y : t) (xs : List t) : atI (x :: y :: xs) 1 = some y := by rw [atI_nat _ _ (by decide)]; rfl
@[simp] theorem atI_2 {t : Type} (x y z : t) (xs : List t) : atI (x :: y :: z :: xs) 2 = some z := by rw [atI_nat _ _ (by decide)]; rfl
@[simp] theorem atI_3 {t : Type} (x y z u : t) (xs : List t) : atI (x :: y :: z :: u :: xs) 3 = some u := by rw [atI_nat _ _ (by decide)]; rfl
@[simp] theorem atI_4 {t : Type} (x y z u v : t) (xs : List t) : atI (x :: y :: z :: u :: v :: xs) 4 = some v := by rw [atI_nat _ _ (by decide)]; rfl
@[simp] theorem atI_5 {t : Type} (x y z u v r : t) (xs : List t) : atI (x :: y :: z :: u :: v :: r :: xs) 5 = some r := by rw [atI_nat _ _ (by decide)]; rfl
@[simp] theorem lenD_l (xs : List D) : lenD (.list xs) = some (.int xs.length) := rfl
@[simp] theorem lenD_t (xs : List D) : lenD (.tuple xs) = some (.int xs.length) := rfl
@[simp] theorem tupleD_l (xs : List D) : tupleD (.list xs) = some (.tuple xs) := rfl
theorem fits_of {n : Nat} (h : n ≤ 16777216) : fits n = true := decide_eq_true h

/-! ### equal data -/
theorem eqvS (x y : Str) : PyData.eqv (.str x) (.str y) = decide (x = y) := by
  show (x == y) = _
  by_cases h : x = y
  · subst h; simp
  · simp [h]
theorem eqD_str (x y : Str) : eqD (.str x) (.str y) = some (.bool (decide (x = y))) := by
  unfold eqD
  rw [eqvS]
  rfl
theorem eqD_int (i j : Int) : eqD (.int i) (.int j) = some (.bool (decide (i = j))) := by
  have : PyData.eqv (.int i) (.int j) = decide (i = j) := by
    show (i == j) = _
    by_cases h : i = j
    · subst h; simp
    · simp [h]
  unfold eqD
  rw [this]
  rfl
@[simp] theorem ltD_int (i j : Int) : ltD (.int i) (.int j) = some (.bool (decide (i < j))) := rfl
@[simp] theorem gtD_int (i j : Int) : gtD (.int i) (.int j) = some (.bool (decide (j < i))) := rfl

/-! ### letters, values -/
def signs0 : Str := "abc xyz!ABZ~0189-\\/()[]{}<>?*+=,.;:'\"_^|&#@$QRST"
def IsLet (x : Str) : Prop := ∃ c ∈ signs0.cps.toList, x = ⟨#[c]⟩
theorem F_letter (c : Int) : ∃ x, Fn.F__law_letter [.int c] = .ok (.str x) ∧ IsLet x := by
  have hl : signs0.length = 48 := by decide +kernel
  have hl2 : signs0.cps.toList.length = 48 := by decide +kernel
  have hm := mix_range c 9973 48 (by decide)
  obtain ⟨s, hs, he⟩ := atI_mem signs0.cps.toList (mix c 9973 48) hm.1 (by rw [hl2]; exact hm.2)
  refine ⟨⟨#[s]⟩, ?_, s, hs, rfl⟩
  have e1 : lenD (.str signs0) = some (.int 48) := by show (if fits signs0.length then some (PyData.int signs0.length) else none) = _; rw [hl]; rfl
  have e2 : ∀ i, ixD (.str signs0) (.int i) = (atI signs0.cps.toList i).map fun c => .str ⟨#[c]⟩ := fun i => by show (if fits signs0.length then (atI signs0.cps.toList i).map fun c => PyData.str ⟨#[c]⟩ else none) = _; rw [hl]; rfl
  have e0 : (PyData.str "abc xyz!ABZ~0189-\\/()[]{}<>?*+=,.;:'\"_^|&#@$QRST") = .str signs0 := rfl
  simp [Fn.F__law_letter, fnD, Fn.g__law_letter, startD, stSl, List.replicate, F_mix, e0, e1, e2, he]
def IsVal (k : Str) (v : D) : Prop := (k = "bold" ∧ ∃ b, v = .bool b) ∨ (k = "link" ∧ (v = .none ∨ v = .str "a" ∨ v = .str "go" ∨ v = .str "zzzzzzzz" ∨ v = .str "link"))
theorem F_value_bold (c : Int) : ∃ v, Fn.F__law_value [.int c, .str "bold"] = .ok v ∧ IsVal "bold" v := by
  refine ⟨.bool (decide (mix c 9967 2 = 0)), ?_, .inl ⟨rfl, _, rfl⟩⟩
  simp [Fn.F__law_value, fnD, Fn.g__law_value, startD, stSl, List.replicate, F_mix, eqD_str, eqD_int]
theorem F_value_link (c : Int) : ∃ v, Fn.F__law_value [.int c, .str "link"] = .ok v ∧ IsVal "link" v := by
  have hm := mix_range c 9949 6 (by decide)
  obtain ⟨s, hs, he⟩ := atI_mem [PyData.none, .str "a", .str "go", .str "zzzzzzzz", .str "link", .str "a"] (mix c 9949 6) hm.1 hm.2
  refine ⟨s, ?_, .inr ⟨rfl, ?_⟩⟩
  · have hne : ¬ (("link" : Str) = "bold") := by decide +kernel
    simp [Fn.F__law_value, fnD, Fn.g__law_value, startD, stSl, List.replicate, F_mix, eqD_str, hne, fits_of, he]
  · simp at hs
    rcases hs with h | h | h | h | h | h <;> simp [h]
theorem F_cell (ns : List Int) (k : Nat) : ∃ c : Int, Fn.F__law_cell [.list (ns.map PyData.int), .int k] = .ok (.int c) := by
  by_cases h : k < ns.length
  · refine ⟨ns[k], ?_⟩
    have e : atI (ns.map PyData.int) (k : Int) = some (.int ns[k]) := by
      rw [atI_nat _ _ (by omega)]
      simp [h]
    simp [Fn.F__law_cell, fnD, Fn.g__law_cell, startD, stSl, List.replicate, h, e]
  · refine ⟨0, ?_⟩
    simp [Fn.F__law_cell, fnD, Fn.g__law_cell, startD, stSl, List.replicate, h]
end Hm
/-! Pu1: stamps, deeds, rows of deeds -/
namespace Hm
open PySem PySem.SeqAt L2
abbrev Stm := Int × Str
def dS (s : Stm) : D := .tuple [.int s.1, .str s.2]
def dO : Option Stm → D
  | none => .none
  | some s => dS s
inductive Deed where
  | write (s : Stm) (a : Option Stm) (c : Str)
  | cut (s g : Stm)
  | mark (s : Stm) (k : Str) (f : Stm) (e : Option Stm) (v : D)
  | off (s g : Stm)
  | on (s g : Stm)
namespace Deed
def st : Deed → Stm
  | write s _ _ => s
  | cut s _ => s
  | mark s _ _ _ _ => s
  | off s _ => s
  | on s _ => s
def word : Deed → Str
  | write _ _ _ => "write"
  | cut _ _ => "cut"
  | mark _ _ _ _ _ => "mark"
  | off _ _ => "off"
  | on _ _ => "on"
end Deed
def dD : Deed → D
  | .write s a c => .tuple [.str "write", dS s, dO a, .str c]
  | .cut s g => .tuple [.str "cut", dS s, dS g]
  | .mark s k f e v => .tuple [.str "mark", dS s, .str k, dS f, dO e, v]
  | .off s g => .tuple [.str "off", dS s, dS g]
  | .on s g => .tuple [.str "on", dS s, dS g]
@[simp] theorem ixD_dD0 (d : Deed) : ixD (dD d) (.int 0) = some (.str d.word) := by cases d <;> rfl
@[simp] theorem ixD_dD1 (d : Deed) : ixD (dD d) (.int 1) = some (dS d.st) := by cases d <;> rfl
@[simp] theorem ixD_dS0 (s : Stm) : ixD (dS s) (.int 0) = some (.int s.1) := rfl
@[simp] theorem ixD_dS1 (s : Stm) : ixD (dS s) (.int 1) = some (.str s.2) := rfl

/-! ### the order of stamps -/
def ltS (s t : Stm) : Bool := ltSt s.1 s.2 t.1 t.2
theorem ltS_iff {s t : Stm} : ltS s t = true ↔ s.1 < t.1 ∨ (s.1 = t.1 ∧ s.2.cps.toList < t.2.cps.toList) := by
  unfold ltS ltSt
  simp
theorem ltS_trans {s t u : Stm} (h : ltS s t = true) (h2 : ltS t u = true) : ltS s u = true := by
  rw [ltS_iff] at *
  rcases h with h | ⟨h, k⟩ <;> rcases h2 with h2 | ⟨h2, k2⟩
  · exact .inl (by omega)
  · exact .inl (by omega)
  · exact .inl (by omega)
  · exact .inr ⟨by omega, List.lt_trans k k2⟩
theorem ltS_irrefl (s : Stm) : ltS s s = false := by
  cases h : ltS s s with
  | false => rfl
  | true =>
    rw [ltS_iff] at h
    rcases h with h | ⟨_, k⟩
    · omega
    · exact absurd k (List.lt_irrefl _)
theorem ltS_ne {s t : Stm} (h : ltS s t = true) : s ≠ t := fun e => by subst e; rw [ltS_irrefl] at h; cases h
theorem ltS_asymm {s t : Stm} (h : ltS s t = true) : ltS t s = false := by
  cases k : ltS t s with
  | false => rfl
  | true =>
    have := ltS_trans h k
    rw [ltS_irrefl] at this
    cases this
theorem ltS_total {s t : Stm} (h : s ≠ t) (h2 : ltS s t = false) : ltS t s = true := by
  rw [ltS_iff]
  have h3 : ¬ (s.1 < t.1 ∨ (s.1 = t.1 ∧ s.2.cps.toList < t.2.cps.toList)) := by rw [← ltS_iff, h2]; simp
  rw [not_or] at h3
  by_cases e : s.1 = t.1
  · refine .inr ⟨e.symm, ?_⟩
    have k := fun z => h3.2 ⟨e, z⟩
    have k2 : t.2.cps.toList ≤ s.2.cps.toList := k
    rcases List.le_iff_lt_or_eq.mp k2 with q | q
    · exact q
    · exfalso
      apply h
      have : s.2 = t.2 := by
        cases hs : s.2 with
        | mk a =>
          cases ht : t.2 with
          | mk b =>
            rw [hs, ht] at q
            congr 1
            exact Array.ext' q.symm
      exact Prod.ext e this
  · exact .inl (by omega)

/-! ### rows -/
def letS : List Deed → List Stm
  | [] => []
  | .write s _ _ :: r => s :: letS r
  | _ :: r => letS r
def othS : List Deed → List Stm
  | [] => []
  | .cut s _ :: r => s :: othS r
  | .mark s _ _ _ _ :: r => s :: othS r
  | _ :: r => othS r
theorem letS_append : ∀ (a b : List Deed), letS (a ++ b) = letS a ++ letS b
  | [], _ => rfl
  | d :: r, b => by cases d <;> simp [letS, letS_append r b]
theorem othS_append : ∀ (a b : List Deed), othS (a ++ b) = othS a ++ othS b
  | [], _ => rfl
  | d :: r, b => by cases d <;> simp [othS, othS_append r b]
theorem letS_le : ∀ ds : List Deed, (letS ds).length ≤ ds.length
  | [] => Nat.le_refl _
  | d :: r => by have := letS_le r; cases d <;> simp [letS] <;> omega
theorem othS_le : ∀ ds : List Deed, (othS ds).length ≤ ds.length
  | [] => Nat.le_refl _
  | d :: r => by have := othS_le r; cases d <;> simp [othS] <;> omega
def IsName (x : Str) : Prop := x = "a" ∨ x = "b" ∨ x = "z"
def StOk (s : Stm) : Prop := 0 < s.1 ∧ IsName s.2
/-- what may follow ds -/
def Nx (ds : List Deed) : Deed → Prop
  | .write _ a c => (∀ t, a = some t → t ∈ letS ds) ∧ IsLet c
  | .cut _ g => g ∈ letS ds
  | .mark _ k f e v => f ∈ letS ds ∧ (∀ t, e = some t → t ∈ letS ds) ∧ (e = none → k = "bold") ∧ IsVal k v
  | .off _ g => g ∈ letS ds ∨ g ∈ othS ds
  | .on _ g => g ∈ letS ds ∨ g ∈ othS ds
inductive Row : List Deed → Prop
  | nil : Row []
  | snoc {ds : List Deed} {d : Deed} : Row ds → (∀ e ∈ ds, ltS e.st d.st = true) → StOk d.st → Nx ds d → Row (ds ++ [d])

/-! ### data that can be compared -/
theorem okD_S (n : Nat) (s : Stm) : okD (n + 1) (dS s) = true := by simp [dS, okD]
theorem okD_O (n : Nat) (a : Option Stm) : okD (n + 1) (dO a) = true := by cases a <;> simp [dO, okD, okD_S]
theorem okD_V {k : Str} {v : D} (n : Nat) (h : IsVal k v) : okD n v = true := by
  rcases h with ⟨_, b, rfl⟩ | ⟨_, rfl | rfl | rfl | rfl | rfl⟩ <;> cases n <;> rfl
def DeedOk : Deed → Prop
  | .mark _ k _ _ v => IsVal k v
  | _ => True
theorem okD_D (n : Nat) {d : Deed} (h : DeedOk d) : okD (n + 2) (dD d) = true := by
  cases d with
  | write s a c => simp [dD, okD, okD_S, okD_O]
  | cut s g => simp [dD, okD, okD_S, okD_O]
  | mark s k f e v => simp [dD, okD, okD_S, okD_O, okD_V _ h]
  | off s g => simp [dD, okD, okD_S, okD_O]
  | on s g => simp [dD, okD, okD_S, okD_O]
theorem Row.ok {ds : List Deed} (h : Row ds) : ∀ d ∈ ds, DeedOk d := by
  induction h with
  | nil => intro d hd; simp at hd
  | snoc _ _ _ hn ih =>
    rename_i ds d _ _ _
    intro e he
    rcases List.mem_append.mp he with he | he
    · exact ih e he
    · simp at he
      subst he
      cases e with
      | mark s k f e v => exact hn.2.2.2
      | _ => trivial
theorem eqD_nil (xs : List D) (h : xs.all (okD 31) = true) : eqD (.list xs) (.list []) = some (.bool xs.isEmpty) := by
  unfold eqD
  have : okD 32 (.list xs) = true := h
  rw [this]
  cases xs <;> rfl
theorem geD_str (x y : Str) : geD (.str x) (.str y) = some (.bool (!decide (x.cps.toList < y.cps.toList))) := rfl
theorem inD_2 (x a b : Str) : inD (.str x) (.tuple [.str a, .str b]) = some (.bool (decide (a = x) || decide (b = x))) := by
  have : inB (.str x) (.tuple [.str a, .str b]) = some (decide (a = x) || decide (b = x)) := by
    show (if okD 32 (.str x) && [PyData.str a, .str b].all (okD 32) then some ([PyData.str a, .str b].any fun y => PyData.eqv y (.str x)) else none) = _
    rw [show (okD 32 (.str x) && [PyData.str a, .str b].all (okD 32)) = true from rfl]
    simp [eqvS]
  unfold inD
  rw [this]
  rfl
theorem ix_name (i : Int) (h : 0 ≤ i) (h2 : i < 3) : ∃ x, ixD (.str "abz") (.int i) = some (.str x) ∧ IsName x := by
  have : i = 0 ∨ i = 1 ∨ i = 2 := by omega
  rcases this with rfl | rfl | rfl
  · exact ⟨"a", rfl, .inl rfl⟩
  · exact ⟨"b", rfl, .inr (.inl rfl)⟩
  · exact ⟨"z", rfl, .inr (.inr rfl)⟩
end Hm
/-! Pu2: the drawn row -/
namespace Hm
open PySem PySem.SeqAt L2
@[simp] theorem wd_cm_w : (decide (("cut" : Str) = "write") || decide (("mark" : Str) = "write")) = false := by decide +kernel
@[simp] theorem wd_cm_c : (decide (("cut" : Str) = "cut") || decide (("mark" : Str) = "cut")) = true := by decide +kernel
@[simp] theorem wd_cm_m : (decide (("cut" : Str) = "mark") || decide (("mark" : Str) = "mark")) = true := by decide +kernel
@[simp] theorem wd_cm_f : (decide (("cut" : Str) = "off") || decide (("mark" : Str) = "off")) = false := by decide +kernel
@[simp] theorem wd_cm_o : (decide (("cut" : Str) = "on") || decide (("mark" : Str) = "on")) = false := by decide +kernel
theorem divD_2 (i : Int) : divD (.int i) (.int 2) = some (.int (i / 2)) := rfl
theorem addD_l (xs ys : List D) (h : fits (xs.length + ys.length) = true) : addD (.list xs) (.list ys) = some (.list (xs ++ ys)) := by
  show (if fits (xs.length + ys.length) = true then some (PyData.list (xs ++ ys)) else none) = _
  rw [h]; rfl
theorem addD_t (xs ys : List D) (h : fits (xs.length + ys.length) = true) : addD (.tuple xs) (.tuple ys) = some (.tuple (xs ++ ys)) := by
  show (if fits (xs.length + ys.length) = true then some (PyData.tuple (xs ++ ys)) else none) = _
  rw [h]; rfl
/-- the last two parts of a turn: what is written behind ds, with the stamp (num, nm) -/
theorem pick_S {ls : List Stm} (c p : Int) (h : ls ≠ []) : ∃ x ∈ ls, atI (ls.map dS) (mix c p ls.length) = some (dS x) := by
  have hl : 0 < ls.length := List.length_pos_iff.mpr h
  have hm := mix_range c p ls.length (by omega)
  obtain ⟨x, hx, he⟩ := atI_mem (ls.map dS) (mix c p ls.length) hm.1 (by simpa using hm.2)
  obtain ⟨y, hy, rfl⟩ := List.mem_map.mp hx
  exact ⟨y, hy, he⟩
theorem allok {ds : List Deed} (h : ∀ d ∈ ds, DeedOk d) : (ds.map dD).all (okD 31) = true := by
  rw [List.all_eq_true]
  intro x hx
  obtain ⟨d, hd, rfl⟩ := List.mem_map.mp hx
  exact okD_D 29 (h d hd)
theorem allokS (ls : List Stm) : (ls.map dS).all (okD 31) = true := by
  rw [List.all_eq_true]
  intro x hx
  obtain ⟨d, hd, rfl⟩ := List.mem_map.mp hx
  exact okD_S 30 d
theorem snoc_inj {t : Type} {a b : List t} {x y : t} (h : a ++ [x] = b ++ [y]) : a = b ∧ x = y := by
  have := List.append_inj' h rfl
  exact ⟨this.1, by simpa using this.2⟩
theorem Row.inv {ds : List Deed} {d : Deed} (h : Row (ds ++ [d])) : Row ds ∧ (∀ e ∈ ds, ltS e.st d.st = true) ∧ StOk d.st ∧ Nx ds d := by
  generalize e : ds ++ [d] = l at h
  cases h with
  | nil => simp at e
  | snoc a b c k =>
    obtain ⟨rfl, rfl⟩ := snoc_inj e
    exact ⟨a, b, c, k⟩
theorem Row.stok {ds : List Deed} (h : Row ds) : ∀ d ∈ ds, StOk d.st := by
  induction h with
  | nil => intro d hd; simp at hd
  | snoc _ _ hs _ ih =>
    intro e he
    rcases List.mem_append.mp he with he | he
    · exact ih e he
    · simp at he; subst he; exact hs
/-- the state of the draw -/
structure Drw (cell many : Int) (ds : List Deed) (num : Int) (δ : Dl) : Prop where
  sl : ∃ x6 x7 x8 x9 x10 x11 x12 x13 x14 x15 x16 x17, δ = [.dat (.int cell), .dat (.int many), .own (.list (ds.map dD)), .own (.list ((letS ds).map dS)), .own (.list ((othS ds).map dS)), .dat (.int num), x6, x7, x8, x9, x10, x11, x12, x13, x14, x15, x16, x17]
  row : Row ds
  le : ∀ e ∈ ds, e.st.1 ≤ num
  pos : 0 ≤ num
theorem IsLet.one {x : Str} (h : IsLet x) : True := trivial
theorem deeds_turn {cell many : Int} {ds : List Deed} {num : Int} {δ : Dl} (h : Drw cell many ds num δ) (hlen : ds.length ≤ 1000) (k : Int) (hk : small k = true) :
    ∃ d num' δ', Fn.b1__law_deeds (δ.set 6 (.dat (.int k))) = .nx δ' ∧ Drw cell many (ds ++ [d]) num' δ' := by
  obtain ⟨⟨x6, x7, x8, x9, x10, x11, x12, x13, x14, x15, x16, x17, rfl⟩, hR, hle, hpos⟩ := h
  have hlL := letS_le ds
  have hlO := othS_le ds
  obtain ⟨nm, hnm, hisn⟩ := ix_name (mix (cell + 31 * k) 9931 3) (mix_range _ _ 3 (by decide)).1 (mix_range _ _ 3 (by decide)).2
  -- the number
  obtain ⟨num', hnum, hle2, hpos2, hlt⟩ : ∃ num' : Int, (∀ y, (gIf (bOr (bOf (fOp eqD (fSn 2) (fLst fNil))) (bOr (bOf (fOp geD (fOp ixD (fOp ixD (fOp ixD (fSn 2) (fNeg (fC (.int 1)))) (fC (.int 1))) (fC (.int 1))) (fVar 9))) (bOf (fOp gtD (fCallF Fn.F__law_mix (fCons (fVar 7) (fCons (fC (.int 9929)) (fCons (fC (.int 3)) fNil)))) (fC (.int 0))))))
      (gSet 5 (fOp addD (fOp addD (fVar 5) (fC (.int 1))) (fOp divD (fCallF Fn.F__law_mix (fCons (fVar 7) (fCons (fC (.int 9923)) (fCons (fC (.int 3)) fNil)))) (fC (.int 2))))) gNx)
      [.dat (.int cell), .dat (.int many), .own (.list (ds.map dD)), .own (.list ((letS ds).map dS)), .own (.list ((othS ds).map dS)), .dat (.int num), .dat (.int k), .dat (.int (cell + 31 * k)), y, .dat (.str nm), x10, x11, x12, x13, x14, x15, x16, x17] =
      .nx [.dat (.int cell), .dat (.int many), .own (.list (ds.map dD)), .own (.list ((letS ds).map dS)), .own (.list ((othS ds).map dS)), .dat (.int num'), .dat (.int k), .dat (.int (cell + 31 * k)), y, .dat (.str nm), x10, x11, x12, x13, x14, x15, x16, x17]) ∧
      num ≤ num' ∧ 0 < num' ∧ ∀ e ∈ ds, ltS e.st (num', nm) = true := by
    have hq := mix_range (cell + 31 * k) 9923 3 (by decide)
    have hup : ∀ e ∈ ds, ltS e.st (num + 1 + mix (cell + 31 * k) 9923 3 / 2, nm) = true := fun e he => by
      rw [ltS_iff]
      have := hle e he
      exact .inl (by show _ < num + 1 + mix (cell + 31 * k) 9923 3 / 2; omega)
    rcases List.eq_nil_or_concat ds with rfl | ⟨ds', l, rfl⟩
    · refine ⟨num + 1 + mix (cell + 31 * k) 9923 3 / 2, fun y => ?_, by omega, by omega, hup⟩
      simp [F_mix, divD_2, eqD_nil [] rfl, letS, othS, fits_of]
    · have hall := allok hR.ok
      by_cases hc : l.st.2.cps.toList < nm.cps.toList ∧ ¬ 0 < mix (cell + 31 * k) 9929 3
      · have hl1 : l.st.1 ≤ num := hle l (by simp)
        refine ⟨num, fun y => ?_, by omega, ?_, fun e he => ?_⟩
        · simp only [List.concat_eq_append, List.map_append, List.map_cons, List.map_nil] at hall ⊢
          simp [F_mix, eqD_nil _ hall, geD_str, hc.1, hc.2, fits_of, atI_last]
        · have := (hR.stok l (by simp)).1
          omega
        · rw [List.concat_eq_append] at hR he
          have hll : ltS l.st (num, nm) = true := by
            rw [ltS_iff]
            by_cases z : l.st.1 < num
            · exact .inl z
            · exact .inr ⟨by show l.st.1 = num; omega, hc.1⟩
          rcases List.mem_append.mp he with he | he
          · exact ltS_trans (hR.inv.2.1 e he) hll
          · simp at he; subst he; exact hll
      · refine ⟨num + 1 + mix (cell + 31 * k) 9923 3 / 2, fun y => ?_, by omega, by omega, hup⟩
        simp only [List.concat_eq_append, List.map_append, List.map_cons, List.map_nil] at hall ⊢
        by_cases h1 : l.st.2.cps.toList < nm.cps.toList
        · have h2 : 0 < mix (cell + 31 * k) 9929 3 := by
            rw [not_and] at hc
            have := hc h1
            omega
          simp [F_mix, eqD_nil _ hall, geD_str, h1, h2, fits_of, divD_2, atI_last]
        · simp [F_mix, eqD_nil _ hall, geD_str, h1, fits_of, divD_2, atI_last]
  have hst : StOk (num', nm) := ⟨hpos2, hisn⟩
  -- what is put behind
  have fin : ∀ (d : Deed), d.st = (num', nm) → Nx ds d → ∀ δ', (∃ x6 x7 x8 x9 x10 x11 x12 x13 x14 x15 x16 x17, δ' = [.dat (.int cell), .dat (.int many), .own (.list ((ds ++ [d]).map dD)), .own (.list ((letS (ds ++ [d])).map dS)), .own (.list ((othS (ds ++ [d])).map dS)), .dat (.int num'), x6, x7, x8, x9, x10, x11, x12, x13, x14, x15, x16, x17]) → Drw cell many (ds ++ [d]) num' δ' := fun d hd hN δ' hs => by
    refine ⟨hs, .snoc hR (by rw [hd]; exact hlt) (by rw [hd]; exact hst) hN, fun e he => ?_, by omega⟩
    rcases List.mem_append.mp he with he | he
    · have := hle e he; omega
    · simp at he; subst he; rw [hd]; exact Int.le_refl _
  have mulk : mulD (.int 31) (.int k) = some (.int (31 * k)) := mulD_sm' _ _ (by decide)
  simp only [Fn.b1__law_deeds, gSeq_e, gSet_e, fOp_e, fVar_0, fVar_s, fC_e, Rs.ok_bind, Rs.of_some, So.of_ok, then_nx, mulk, addD_i, fCallF_e, fCons_e, fNil_e, F_mix, noX_ok_e, hnm, List.set_cons_zero, List.set_cons_succ, noX_bind, Int.reduceLT, Int.reducePow]
  rw [hnum]
  have hallL := allokS (letS ds)
  have hstep : fits 2 = true := rfl
  have hfD : fits (ds.length + 1) = true := fits_of (by omega)
  have hfL : fits ((letS ds).length + 1) = true := fits_of (by omega)
  have hfO : fits ((othS ds).length + 1) = true := fits_of (by omega)
  have hS : dS (num', nm) = .tuple [.int num', .str nm] := rfl
  have hempty : ((letS ds).map dS).isEmpty = true ↔ letS ds = [] := by cases letS ds <;> simp
  by_cases hA : mix (cell + 31 * k) 9941 10 < 5 ∨ letS ds = []
  · -- write
    have hm := mix_range (cell + 31 * k) 9907 ((letS ds).length + 1) (by omega)
    have ols : ∀ x ∈ (PyData.none :: (letS ds).map dS), ∃ a : Option Stm, (∀ t, a = some t → t ∈ letS ds) ∧ x = dO a := fun x hx => by
      rcases List.mem_cons.mp hx with rfl | hx
      · exact ⟨none, fun t ht => (by cases ht), rfl⟩
      · obtain ⟨y, hy, rfl⟩ := List.mem_map.mp hx
        exact ⟨some y, fun t ht => (by cases ht; exact hy), rfl⟩
    obtain ⟨x1, hx1, he1⟩ := atI_mem (PyData.none :: (letS ds).map dS) (mix (cell + 31 * k) 9907 ((letS ds).length + 1)) hm.1 (by simpa using hm.2)
    obtain ⟨a1, ha1, rfl⟩ := ols x1 hx1
    obtain ⟨x2, hx2, he2⟩ : ∃ x ∈ (PyData.none :: (letS ds).map dS), atI (PyData.none :: (letS ds).map dS) (-1) = some x := by
      rcases List.eq_nil_or_concat (PyData.none :: (letS ds).map dS) with h | ⟨a, b, h⟩
      · cases h
      · rw [h, List.concat_eq_append]
        exact ⟨b, by simp, atI_last a b⟩
    obtain ⟨a2, ha2, rfl⟩ := ols x2 hx2
    obtain ⟨c, hc, hlet⟩ := F_letter (cell + 31 * k + 7)
    have hcat : addD (.list [.none]) (.list ((letS ds).map dS)) = some (.list (.none :: (letS ds).map dS)) := by
      rw [addD_l _ _ (fits_of (by simp; omega))]
      rfl
    have hlen1 : lenD (.list (.none :: (letS ds).map dS)) = some (.int ((letS ds).length + 1)) := by simp
    have hcond : (decide (mix (cell + 31 * k) 9941 10 < 5) || ((letS ds).map dS).isEmpty) = true := by
      rw [Bool.or_eq_true, decide_eq_true_eq, hempty]; exact hA
    have hF := F_mix (cell + 31 * k) 9907 ((letS ds).length + 1) (by decide) (by decide) (by omega)
    have hwr : ∀ a, (∀ t, a = some t → t ∈ letS ds) → Drw cell many (ds ++ [(.write (num', nm) a c)]) num' [.dat (.int cell), .dat (.int many), .own (.list (ds.map dD ++ [dD (.write (num', nm) a c)])), .own (.list ((letS ds).map dS ++ [dS (num', nm)])), .own (.list ((othS ds).map dS)), .dat (.int num'), .dat (.int k), .dat (.int (cell + 31 * k)), .dat (.int (mix (cell + 31 * k) 9941 10)), .dat (.str nm), .dat (dS (num', nm)), .dat (.list (.none :: (letS ds).map dS)), .dat (dO a), x13, x14, x15, x16, x17] := fun a ha =>
      fin (.write (num', nm) a c) rfl ⟨ha, hlet⟩ _ ⟨.dat (.int k), .dat (.int (cell + 31 * k)), .dat (.int (mix (cell + 31 * k) 9941 10)), .dat (.str nm), .dat (dS (num', nm)), .dat (.list (.none :: (letS ds).map dS)), .dat (dO a), x13, x14, x15, x16, x17, by rw [letS_append, othS_append]; simp [letS, othS]⟩
    have hcond : bOr (bOf (fOp ltD (fVar 8) (fC (PyData.int 5)))) (bOf (fOp eqD (fSn 3) (fLst fNil))) [.dat (.int cell), .dat (.int many), .own (.list (ds.map dD)), .own (.list ((letS ds).map dS)), .own (.list ((othS ds).map dS)), .dat (.int num'), .dat (.int k), .dat (.int (cell + 31 * k)), .dat (.int (mix (cell + 31 * k) 9941 10)), .dat (.str nm), .dat (dS (num', nm)), x11, x12, x13, x14, x15, x16, x17] = .ok true := by
      rcases hA with h | h
      · simp [h]
      · simp [h, eqD_nil [] rfl, fits_of]
    by_cases h0 : mix (cell + 31 * k) 9901 2 = 0
    · refine ⟨_, _, _, ?_, hwr a2 ha2⟩
      simp [hstep, ← hS, gIf_t _ _ _ _ hcond, hcat, hF, F_mix, he1, he2, eqD_int, h0, hc, fits_of, gApp, dD, atI_last, inD_2, hfD, hfL, hfO]
    · refine ⟨_, _, _, ?_, hwr a1 ha1⟩
      simp [hstep, ← hS, gIf_t _ _ _ _ hcond, hcat, hF, F_mix, he1, he2, eqD_int, h0, hc, fits_of, gApp, dD, atI_last, inD_2, hfD, hfL, hfO]
  · rw [not_or] at hA
    obtain ⟨h5', hne⟩ := hA
    have hcond : bOr (bOf (fOp ltD (fVar 8) (fC (PyData.int 5)))) (bOf (fOp eqD (fSn 3) (fLst fNil))) [.dat (.int cell), .dat (.int many), .own (.list (ds.map dD)), .own (.list ((letS ds).map dS)), .own (.list ((othS ds).map dS)), .dat (.int num'), .dat (.int k), .dat (.int (cell + 31 * k)), .dat (.int (mix (cell + 31 * k) 9941 10)), .dat (.str nm), .dat (dS (num', nm)), x11, x12, x13, x14, x15, x16, x17] = .ok false := by
      have : ((letS ds).map dS).isEmpty = false := by
        cases h : ((letS ds).map dS).isEmpty with
        | false => rfl
        | true => exact absurd (hempty.mp h) hne
      simp only [bOr_e, bOf_e, fOp_e, fVar_s, fVar_0, fSn_s, fSn_0o, fC_e, fLst_e, fNil_e, Rs.ok_bind, List.length_nil, fits_of (Nat.zero_le _), need_true, eqD_nil _ hallL, this, ltD_int, Rs.of_some, blOf_bool, decide_eq_false h5', Bool.false_eq_true, if_false]
    have hpos3 : (0 : Int) < (letS ds).length := by have := List.length_pos_iff.mpr hne; omega
    by_cases h5 : mix (cell + 31 * k) 9941 10 = 5
    · -- cut
      obtain ⟨g, hg, hge⟩ := pick_S (ls := letS ds) (cell + 31 * k) 9887 hne
      have hFm := F_mix (cell + 31 * k) 9887 (letS ds).length (by decide) (by decide) hpos3
      refine ⟨(.cut (num', nm) g), num', [.dat (.int cell), .dat (.int many), .own (.list (ds.map dD ++ [dD (.cut (num', nm) g)])), .own (.list ((letS ds).map dS)), .own (.list ((othS ds).map dS ++ [dS (num', nm)])), .dat (.int num'), .dat (.int k), .dat (.int (cell + 31 * k)), .dat (.int (mix (cell + 31 * k) 9941 10)), .dat (.str nm), .dat (dS (num', nm)), x11, x12, x13, x14, x15, x16, x17], ?_, fin (.cut (num', nm) g) rfl hg _ ⟨.dat (.int k), .dat (.int (cell + 31 * k)), .dat (.int (mix (cell + 31 * k) 9941 10)), .dat (.str nm), .dat (dS (num', nm)), x11, x12, x13, x14, x15, x16, x17, by rw [letS_append, othS_append]; simp [letS, othS]⟩⟩
      have h8 : True := trivial
      have h5e := eq_true h5
      simp [hstep, ← hS, gIf_f _ _ _ _ hcond, F_mix, eqD_int, eqD_str, fits_of, gApp, dD, atI_last, inD_2, hfD, hfL, hfO, h5e, h8, hFm, hge]
    · have h5e := eq_false h5
      by_cases h8 : mix (cell + 31 * k) 9941 10 < 8
      · -- mark
        obtain ⟨f, hf, hfe⟩ := pick_S (ls := letS ds) (cell + 31 * k) 9871 hne
        obtain ⟨e0, he0, hee⟩ := pick_S (ls := letS ds) (cell + 31 * k) 9859 hne
        have hF1 := F_mix (cell + 31 * k) 9871 (letS ds).length (by decide) (by decide) hpos3
        have hF2 := F_mix (cell + 31 * k) 9859 (letS ds).length (by decide) (by decide) hpos3
        have hm := mix_range (cell + 31 * k) 9883 2 (by decide)
        have key : ∀ (kd : Str) (e : Option Stm) (v : D), (∀ t, e = some t → t ∈ letS ds) → (e = none → kd = "bold") → IsVal kd v → Drw cell many (ds ++ [(.mark (num', nm) kd f e v)]) num' [.dat (.int cell), .dat (.int many), .own (.list (ds.map dD ++ [dD (.mark (num', nm) kd f e v)])), .own (.list ((letS ds).map dS)), .own (.list ((othS ds).map dS ++ [dS (num', nm)])), .dat (.int num'), .dat (.int k), .dat (.int (cell + 31 * k)), .dat (.int (mix (cell + 31 * k) 9941 10)), .dat (.str nm), .dat (dS (num', nm)), x11, x12, .dat (.str kd), .dat (dS f), .dat (dO e), x16, x17] := fun kd e v h1 h2 h3 =>
          fin (.mark (num', nm) kd f e v) rfl ⟨hf, h1, h2, h3⟩ _ ⟨.dat (.int k), .dat (.int (cell + 31 * k)), .dat (.int (mix (cell + 31 * k) 9941 10)), .dat (.str nm), .dat (dS (num', nm)), x11, x12, .dat (.str kd), .dat (dS f), .dat (dO e), x16, x17, by rw [letS_append, othS_append]; simp [letS, othS]⟩
        have hnlb : ¬ (("link" : Str) = "bold") := by decide +kernel
        have hk : mix (cell + 31 * k) 9883 2 = 0 ∨ mix (cell + 31 * k) 9883 2 = 1 := by omega
        rcases hk with hk | hk
        · obtain ⟨v, hv, hva⟩ := F_value_bold (cell + 31 * k + 3)
          by_cases h3 : mix (cell + 31 * k) 9857 3 = 0
          · refine ⟨_, _, _, ?_, key "bold" none v (fun t ht => (by cases ht)) (fun _ => rfl) hva⟩
            simp [hstep, ← hS, gIf_f _ _ _ _ hcond, F_mix, eqD_int, eqD_str, fits_of, gApp, dD, atI_last, inD_2, hfD, hfL, hfO, h5e, h8, hF1, hF2, hfe, hee, hk, h3, hv, dO]
          · refine ⟨_, _, _, ?_, key "bold" (some e0) v (fun t ht => (by cases ht; exact he0)) (fun z => (by cases z)) hva⟩
            simp [hstep, ← hS, gIf_f _ _ _ _ hcond, F_mix, eqD_int, eqD_str, fits_of, gApp, dD, atI_last, inD_2, hfD, hfL, hfO, h5e, h8, hF1, hF2, hfe, hee, hk, h3, hv, dO]
        · obtain ⟨v, hv, hva⟩ := F_value_link (cell + 31 * k + 3)
          refine ⟨_, _, _, ?_, key "link" (some e0) v (fun t ht => (by cases ht; exact he0)) (fun z => (by cases z)) hva⟩
          simp [hstep, ← hS, gIf_f _ _ _ _ hcond, F_mix, eqD_int, eqD_str, fits_of, gApp, dD, atI_last, inD_2, hfD, hfL, hfO, h5e, h8, hF1, hF2, hfe, hee, hk, hv, dO, hnlb]
      · -- off, on
        have hcat : addD (.list ((letS ds).map dS)) (.list ((othS ds).map dS)) = some (.list ((letS ds ++ othS ds).map dS)) := by
          rw [addD_l _ _ (fits_of (by simp; omega))]
          simp
        have hne2 : letS ds ++ othS ds ≠ [] := fun z => hne (List.append_eq_nil_iff.mp z).1
        obtain ⟨g, hg, hge⟩ := pick_S (ls := letS ds ++ othS ds) (cell + 31 * k) 9839 hne2
        have hFm := F_mix (cell + 31 * k) 9839 (letS ds ++ othS ds).length (by decide) (by decide) (by have := List.length_pos_iff.mpr hne2; omega)
        have hm := mix_range (cell + 31 * k) 9851 3 (by decide)
        have hk : mix (cell + 31 * k) 9851 3 = 0 ∨ mix (cell + 31 * k) 9851 3 = 1 ∨ mix (cell + 31 * k) 9851 3 = 2 := by omega
        have hg' := List.mem_append.mp hg
        have tl : ∀ w : Str, Dl := fun w => []
        simp only [List.length_append, List.map_append, Int.natCast_add] at hge hFm
        rcases hk with hk | hk | hk
        · refine ⟨(.off (num', nm) g), num', [.dat (.int cell), .dat (.int many), .own (.list (ds.map dD ++ [dD (.off (num', nm) g)])), .own (.list ((letS ds).map dS)), .own (.list ((othS ds).map dS)), .dat (.int num'), .dat (.int k), .dat (.int (cell + 31 * k)), .dat (.int (mix (cell + 31 * k) 9941 10)), .dat (.str nm), .dat (dS (num', nm)), x11, x12, x13, x14, x15, .dat (.list ((letS ds ++ othS ds).map dS)), .dat (.str "off")], ?_, fin (.off (num', nm) g) rfl hg' _ ⟨.dat (.int k), .dat (.int (cell + 31 * k)), .dat (.int (mix (cell + 31 * k) 9941 10)), .dat (.str nm), .dat (dS (num', nm)), x11, x12, x13, x14, x15, .dat (.list ((letS ds ++ othS ds).map dS)), .dat (.str "off"), by rw [letS_append, othS_append]; simp [letS, othS]⟩⟩
          simp [hstep, ← hS, gIf_f _ _ _ _ hcond, F_mix, eqD_int, eqD_str, fits_of, gApp, dD, atI_last, inD_2, hfD, hfL, hfO, h5e, h8, hcat, hk, hFm, hge]
        · refine ⟨(.on (num', nm) g), num', [.dat (.int cell), .dat (.int many), .own (.list (ds.map dD ++ [dD (.on (num', nm) g)])), .own (.list ((letS ds).map dS)), .own (.list ((othS ds).map dS)), .dat (.int num'), .dat (.int k), .dat (.int (cell + 31 * k)), .dat (.int (mix (cell + 31 * k) 9941 10)), .dat (.str nm), .dat (dS (num', nm)), x11, x12, x13, x14, x15, .dat (.list ((letS ds ++ othS ds).map dS)), .dat (.str "on")], ?_, fin (.on (num', nm) g) rfl hg' _ ⟨.dat (.int k), .dat (.int (cell + 31 * k)), .dat (.int (mix (cell + 31 * k) 9941 10)), .dat (.str nm), .dat (dS (num', nm)), x11, x12, x13, x14, x15, .dat (.list ((letS ds ++ othS ds).map dS)), .dat (.str "on"), by rw [letS_append, othS_append]; simp [letS, othS]⟩⟩
          simp [hstep, ← hS, gIf_f _ _ _ _ hcond, F_mix, eqD_int, eqD_str, fits_of, gApp, dD, atI_last, inD_2, hfD, hfL, hfO, h5e, h8, hcat, hk, hFm, hge]
        · refine ⟨(.off (num', nm) g), num', [.dat (.int cell), .dat (.int many), .own (.list (ds.map dD ++ [dD (.off (num', nm) g)])), .own (.list ((letS ds).map dS)), .own (.list ((othS ds).map dS)), .dat (.int num'), .dat (.int k), .dat (.int (cell + 31 * k)), .dat (.int (mix (cell + 31 * k) 9941 10)), .dat (.str nm), .dat (dS (num', nm)), x11, x12, x13, x14, x15, .dat (.list ((letS ds ++ othS ds).map dS)), .dat (.str "off")], ?_, fin (.off (num', nm) g) rfl hg' _ ⟨.dat (.int k), .dat (.int (cell + 31 * k)), .dat (.int (mix (cell + 31 * k) 9941 10)), .dat (.str nm), .dat (dS (num', nm)), x11, x12, x13, x14, x15, .dat (.list ((letS ds ++ othS ds).map dS)), .dat (.str "off"), by rw [letS_append, othS_append]; simp [letS, othS]⟩⟩
          simp [hstep, ← hS, gIf_f _ _ _ _ hcond, F_mix, eqD_int, eqD_str, fits_of, gApp, dD, atI_last, inD_2, hfD, hfL, hfO, h5e, h8, hcat, hk, hFm, hge]
end Hm
/-! Pu3: the drawn row, all turns -/
namespace Hm
open PySem PySem.SeqAt L2
theorem rangeD_succ (lo : Int) (n : Nat) : rangeD lo (n + 1) = .int lo :: rangeD (lo + 1) n := by
  unfold rangeD
  rw [List.range_succ_eq_map]
  simp only [List.map_cons, List.map_map]
  congr 1
  · simp
  · apply List.map_congr_left
    intro i _
    show PyData.int (lo + ((i + 1 : Nat) : Int)) = PyData.int (lo + 1 + (i : Int))
    congr 1
    omega
theorem small62_nat (n : Nat) (h : n ≤ 100000) : small62 (n : Int) = true := decide_eq_true (by omega)
theorem need_62 (n : Nat) (h : n ≤ 100000) : Rs.need (small62 (n : Int)) = .ok () := by
  rw [small62_nat n h]
  exact need_true
theorem rng1_ok {f : Fe} {δ : Dl} (n : Nat) (h : n ≤ 100000) (hf : f δ = .ok (.int (n : Int))) : rng1 f δ = .ok (rangeD 0 n) := by
  rw [rng1_e, hf, Rs.ok_bind, intOf_int, Rs.of_some, Rs.ok_bind, need_62 n h, Rs.ok_bind, Int.toNat_natCast]
theorem small_nat (n : Int) (h0 : 0 ≤ n) (h : n ≤ 100000) : small n = true := decide_eq_true (by omega)
theorem deeds_loop (cell many : Int) : ∀ (n : Nat) (lo : Int) (ds : List Deed) (num : Int) (δ : Dl), Drw cell many ds num δ → ds.length + n ≤ 1000 → 0 ≤ lo → lo + n ≤ 100000 →
    ∃ ds' num' δ', forS (ftN 6) Fn.b1__law_deeds (rangeD lo n) δ = .nx δ' ∧ Drw cell many ds' num' δ' ∧ ds'.length = ds.length + n
  | 0, lo, ds, num, δ, h, _, _, _ => ⟨ds, num, δ, rfl, h, rfl⟩
  | n + 1, lo, ds, num, δ, h, hl, h0, h1 => by
    obtain ⟨d, num', δ', he, hd⟩ := deeds_turn h (by omega) lo (small_nat lo h0 (by omega))
    obtain ⟨ds2, num2, δ2, he2, hd2, hl2⟩ := deeds_loop cell many n (lo + 1) (ds ++ [d]) num' δ' hd (by simp; omega) (by omega) (by omega)
    refine ⟨ds2, num2, δ2, ?_, hd2, by rw [hl2]; simp; omega⟩
    rw [rangeD_succ, forS_cons]
    simp [he, he2]
theorem F_deeds (cell : Int) (n : Nat) (h : n ≤ 900) : ∃ ds : List Deed, Fn.F__law_deeds [.int cell, .int n] = .ok (.tuple (ds.map dD)) ∧ Row ds ∧ ds.length = n := by
  obtain ⟨ds, num, δ, he, hd, hl⟩ := deeds_loop cell n n 0 [] 0 [.dat (.int cell), .dat (.int n), .own (.list []), .own (.list []), .own (.list []), .dat (.int 0), .no, .no, .no, .no, .no, .no, .no, .no, .no, .no, .no, .no]
    ⟨⟨_, _, _, _, _, _, _, _, _, _, _, _, rfl⟩, .nil, fun e he => (by simp at he), Int.le_refl _⟩ (by simp; omega) (by omega) (by omega)
  refine ⟨ds, ?_, hd.row, by simpa using hl⟩
  obtain ⟨x6, x7, x8, x9, x10, x11, x12, x13, x14, x15, x16, x17, rfl⟩ := hd.sl
  have e0 : startD 18 [.da, .da] [.int cell, .int n] = [.dat (.int cell), .dat (.int n), .no, .no, .no, .no, .no, .no, .no, .no, .no, .no, .no, .no, .no, .no, .no, .no] := rfl
  show So.fin (Fn.g__law_deeds (startD 18 [.da, .da] [.int cell, .int n])) = _
  rw [e0]
  have e1 : rng1 (fVar 1) [.dat (.int cell), .dat (.int n), .own (.list []), .own (.list []), .own (.list []), .dat (.int 0), .no, .no, .no, .no, .no, .no, .no, .no, .no, .no, .no, .no] = .ok (rangeD 0 n) := by
    exact rng1_ok n (by omega) rfl
  unfold Fn.g__law_deeds
  rw [gSeq_e, gPar3L_e, then_nx, gSeq_e, gSet_e, fC_e, So.of_ok, then_nx, gSeq_e, gFor_e]
  simp only [List.set_cons_zero, List.set_cons_succ]
  rw [e1, So.of_ok, he, then_nx, gRet_e]
  simp
end Hm
/-! Pu4: counts, is_shown -/
namespace Hm
open PySem PySem.SeqAt L2
/-! ### comprehensions over encoded rows -/
theorem lcF_map {A : Type} (enc : A → D) (p : A → Bool) (q : A → D) {ft : Ftg} {tt : Ft} {te : Fe} {δ : Dl} : ∀ (xs : List A), (∀ a ∈ xs, ∃ δ1, ft (enc a) δ = some δ1 ∧ tt δ1 = .ok (p a) ∧ (p a = true → te δ1 = .ok (q a))) → lcF ft tt te δ (xs.map enc) = .ok ((xs.filter p).map q)
  | [], _ => rfl
  | a :: r, h => by
    obtain ⟨δ1, h1, h2, h3⟩ := h a List.mem_cons_self
    have ih := lcF_map enc p q (ft := ft) (tt := tt) (te := te) (δ := δ) r fun b hb => h b (List.mem_cons_of_mem _ hb)
    rw [List.map_cons]
    show (Rs.of (ft (enc a) δ) >>= fun δ1 => noX (tt δ1) >>= fun b => if b = true then noX (te δ1) >>= fun x => lcF ft tt te δ (r.map enc) >>= fun xs => .ok (x :: xs) else lcF ft tt te δ (r.map enc)) = _
    rw [h1, Rs.of_some, Rs.ok_bind, h2, noX_ok_e, Rs.ok_bind, ih]
    cases hp : p a with
    | false => simp [List.filter_cons, hp]
    | true => simp [List.filter_cons, hp, h3 hp]
theorem fLc_map {A : Type} (enc : A → D) (p : A → Bool) (q : A → D) {vs : List Nat} {fi : Fa} {ft : Ftg} {tt : Ft} {te : Fe} {δ : Dl} (xs : List A) (hf : xs.length ≤ 16777216) (hi : fi δ = .ok (xs.map enc))
    (h : ∀ a ∈ xs, ∃ δ1, ft (enc a) (wipeS δ vs) = some δ1 ∧ tt δ1 = .ok (p a) ∧ (p a = true → te δ1 = .ok (q a))) : fLc vs fi ft tt te δ = .ok (.list ((xs.filter p).map q)) := by
  unfold fLc
  rw [hi, Rs.ok_bind, List.length_map, fits_of hf, need_true, Rs.ok_bind, lcF_map enc p q xs h, Rs.ok_bind]
theorem fLc_all {A : Type} (enc : A → D) (q : A → D) {vs : List Nat} {fi : Fa} {ft : Ftg} {te : Fe} {δ : Dl} (xs : List A) (hf : xs.length ≤ 16777216) (hi : fi δ = .ok (xs.map enc))
    (h : ∀ a ∈ xs, ∃ δ1, ft (enc a) (wipeS δ vs) = some δ1 ∧ te δ1 = .ok (q a)) : fLc vs fi ft tYesF te δ = .ok (.list (xs.map q)) := by
  have := fLc_map enc (fun _ => true) q (vs := vs) (fi := fi) (ft := ft) (tt := tYesF) (te := te) (δ := δ) xs hf hi fun a ha => by
    obtain ⟨δ1, h1, h2⟩ := h a ha
    exact ⟨δ1, h1, rfl, fun _ => h2⟩
  rw [List.filter_eq_self.mpr (fun _ _ => rfl)] at this
  exact this
/-! ### equal stamps -/
theorem eqv_S (s t : Stm) : PyData.eqv (dS s) (dS t) = decide (s = t) := by
  show (PyData.eqv (.int s.1) (.int t.1) && (PyData.eqv (.str s.2) (.str t.2) && true)) = _
  rw [eqvS]
  show ((s.1 == t.1) && _) = _
  by_cases h : s = t
  · subst h; simp
  · have : ¬ (s.1 = t.1 ∧ s.2 = t.2) := fun ⟨a, b⟩ => h (Prod.ext a b)
    simp only [h, decide_false, Bool.and_true, Bool.and_eq_false_iff]
    by_cases h1 : s.1 = t.1
    · right; simp; exact fun z => this ⟨h1, z⟩
    · left; simp [h1]
theorem eqv_O (a b : Option Stm) : PyData.eqv (dO a) (dO b) = decide (a = b) := by
  cases a with
  | none => cases b with
    | none => rfl
    | some t => rfl
  | some s => cases b with
    | none => rfl
    | some t => show PyData.eqv (dS s) (dS t) = _; rw [eqv_S]; simp
theorem eqD_S (s t : Stm) : eqD (dS s) (dS t) = some (.bool (decide (s = t))) := by
  unfold eqD
  rw [eqv_S, okD_S, okD_S]
  rfl
theorem eqD_O (a b : Option Stm) : eqD (dO a) (dO b) = some (.bool (decide (a = b))) := by
  unfold eqD
  rw [eqv_O, okD_O, okD_O]
  rfl
theorem eqD_OS (a : Option Stm) (s : Stm) : eqD (dO a) (dS s) = some (.bool (decide (a = some s))) := eqD_O a (some s)

/-! ### words -/
@[simp] theorem ne_write_cut : ((("write" : Str) = "cut")) = False := eq_false (by decide +kernel)
@[simp] theorem ne_write_mark : ((("write" : Str) = "mark")) = False := eq_false (by decide +kernel)
@[simp] theorem ne_write_off : ((("write" : Str) = "off")) = False := eq_false (by decide +kernel)
@[simp] theorem ne_write_on : ((("write" : Str) = "on")) = False := eq_false (by decide +kernel)
@[simp] theorem ne_write_bold : ((("write" : Str) = "bold")) = False := eq_false (by decide +kernel)
@[simp] theorem ne_write_link : ((("write" : Str) = "link")) = False := eq_false (by decide +kernel)
@[simp] theorem ne_cut_write : ((("cut" : Str) = "write")) = False := eq_false (by decide +kernel)
@[simp] theorem ne_cut_mark : ((("cut" : Str) = "mark")) = False := eq_false (by decide +kernel)
@[simp] theorem ne_cut_off : ((("cut" : Str) = "off")) = False := eq_false (by decide +kernel)
@[simp] theorem ne_cut_on : ((("cut" : Str) = "on")) = False := eq_false (by decide +kernel)
@[simp] theorem ne_cut_bold : ((("cut" : Str) = "bold")) = False := eq_false (by decide +kernel)
@[simp] theorem ne_cut_link : ((("cut" : Str) = "link")) = False := eq_false (by decide +kernel)
@[simp] theorem ne_mark_write : ((("mark" : Str) = "write")) = False := eq_false (by decide +kernel)
@[simp] theorem ne_mark_cut : ((("mark" : Str) = "cut")) = False := eq_false (by decide +kernel)
@[simp] theorem ne_mark_off : ((("mark" : Str) = "off")) = False := eq_false (by decide +kernel)
@[simp] theorem ne_mark_on : ((("mark" : Str) = "on")) = False := eq_false (by decide +kernel)
@[simp] theorem ne_mark_bold : ((("mark" : Str) = "bold")) = False := eq_false (by decide +kernel)
@[simp] theorem ne_mark_link : ((("mark" : Str) = "link")) = False := eq_false (by decide +kernel)
@[simp] theorem ne_off_write : ((("off" : Str) = "write")) = False := eq_false (by decide +kernel)
@[simp] theorem ne_off_cut : ((("off" : Str) = "cut")) = False := eq_false (by decide +kernel)
@[simp] theorem ne_off_mark : ((("off" : Str) = "mark")) = False := eq_false (by decide +kernel)
@[simp] theorem ne_off_on : ((("off" : Str) = "on")) = False := eq_false (by decide +kernel)
@[simp] theorem ne_off_bold : ((("off" : Str) = "bold")) = False := eq_false (by decide +kernel)
@[simp] theorem ne_off_link : ((("off" : Str) = "link")) = False := eq_false (by decide +kernel)
@[simp] theorem ne_on_write : ((("on" : Str) = "write")) = False := eq_false (by decide +kernel)
@[simp] theorem ne_on_cut : ((("on" : Str) = "cut")) = False := eq_false (by decide +kernel)
@[simp] theorem ne_on_mark : ((("on" : Str) = "mark")) = False := eq_false (by decide +kernel)
@[simp] theorem ne_on_off : ((("on" : Str) = "off")) = False := eq_false (by decide +kernel)
@[simp] theorem ne_on_bold : ((("on" : Str) = "bold")) = False := eq_false (by decide +kernel)
@[simp] theorem ne_on_link : ((("on" : Str) = "link")) = False := eq_false (by decide +kernel)
@[simp] theorem ne_bold_write : ((("bold" : Str) = "write")) = False := eq_false (by decide +kernel)
@[simp] theorem ne_bold_cut : ((("bold" : Str) = "cut")) = False := eq_false (by decide +kernel)
@[simp] theorem ne_bold_mark : ((("bold" : Str) = "mark")) = False := eq_false (by decide +kernel)
@[simp] theorem ne_bold_off : ((("bold" : Str) = "off")) = False := eq_false (by decide +kernel)
@[simp] theorem ne_bold_on : ((("bold" : Str) = "on")) = False := eq_false (by decide +kernel)
@[simp] theorem ne_bold_link : ((("bold" : Str) = "link")) = False := eq_false (by decide +kernel)
@[simp] theorem ne_link_write : ((("link" : Str) = "write")) = False := eq_false (by decide +kernel)
@[simp] theorem ne_link_cut : ((("link" : Str) = "cut")) = False := eq_false (by decide +kernel)
@[simp] theorem ne_link_mark : ((("link" : Str) = "mark")) = False := eq_false (by decide +kernel)
@[simp] theorem ne_link_off : ((("link" : Str) = "off")) = False := eq_false (by decide +kernel)
@[simp] theorem ne_link_on : ((("link" : Str) = "on")) = False := eq_false (by decide +kernel)
@[simp] theorem ne_link_bold : ((("link" : Str) = "bold")) = False := eq_false (by decide +kernel)
def isCtl (g : Stm) : Deed → Bool
  | .off _ t => decide (t = g)
  | .on _ t => decide (t = g)
  | _ => false
def isCutOf (g : Stm) : Deed → Bool
  | .cut _ t => decide (t = g)
  | _ => false
def ctlD (d : Deed) : D := .tuple [dS d.st, .str d.word]
def onD : D → Bool
  | .tuple [_, .str w] => decide (w = "on")
  | _ => false
def countsB (ds : List Deed) (g : Stm) : Bool := match (ds.filter (isCtl g)).map ctlD with
  | [] => true
  | x :: xs => onD (bestOf x xs)
theorem best_mem (x : D) : ∀ xs : List D, bestOf x xs ∈ x :: xs
  | [] => List.mem_cons_self
  | y :: r => by
    show List.foldl _ (if gtM y x then y else x) r ∈ _
    have := best_mem (if gtM y x then y else x) r
    unfold bestOf at this
    rcases List.mem_cons.mp this with h | h
    · rw [h]
      split
      · simp
      · simp
    · simp [h]
theorem ctl_pr (ds : List Deed) : (ds.map ctlD).all isPr = true := by
  rw [List.all_eq_true]
  intro x hx
  obtain ⟨d, _, rfl⟩ := List.mem_map.mp hx
  rfl
theorem c1_counts_eq (ds : List Deed) (g : Stm) (h : ds.length ≤ 100000) (x2 x3 : Sl) : Fn.c1_counts [.dat (.tuple (ds.map dD)), .dat (dS g), x2, x3] = .ok (.list ((ds.filter (isCtl g)).map ctlD)) := by
  unfold Fn.c1_counts
  refine fLc_map dD (isCtl g) ctlD ds (by omega) (by simp [itemsOf]) fun d hd => ⟨_, rfl, ?_, fun hp => ?_⟩
  · cases d with
    | write s a c => simp [wipeS, inD_2, fits_of, Deed.word, isCtl]
    | cut s t => simp [wipeS, inD_2, fits_of, Deed.word, isCtl]
    | mark s k f e v => simp [wipeS, inD_2, fits_of, Deed.word, isCtl]
    | off s t => simp [wipeS, inD_2, fits_of, isCtl, dD, eqD_S]
    | on s t => simp [wipeS, inD_2, fits_of, isCtl, dD, eqD_S]
  · cases d with
    | off s t => rfl
    | on s t => rfl
    | _ => cases hp
theorem fnD_2 (n : Nat) (g : Fs) (a b : D) : fnD (n + 2) [.da, .da] g [a, b] = So.fin (g (.dat a :: .dat b :: List.replicate n .no)) := rfl
theorem fnD_1 (n : Nat) (g : Fs) (a : D) : fnD (n + 1) [.da] g [a] = So.fin (g (.dat a :: List.replicate n .no)) := rfl
theorem onD_ctl (d : Deed) : onD (ctlD d) = decide (d.word = "on") := rfl
theorem F_counts (ds : List Deed) (g : Stm) (h : ds.length ≤ 100000) : Fn.F_counts [.tuple (ds.map dD), dS g] = .ok (.bool (countsB ds g)) := by
  unfold Fn.F_counts
  rw [fnD_2 2]
  unfold Fn.g_counts countsB
  rw [gSeq_e, gSet_e]
  simp only [List.replicate]
  rw [c1_counts_eq ds g h]
  cases hm : (ds.filter (isCtl g)).map ctlD with
  | nil => simp [truD]
  | cons x xs =>
    have hall : (x :: xs).all isPr = true := by rw [← hm]; exact ctl_pr _
    have hx : maxD (.list (x :: xs)) = some (bestOf x xs) := by
      show (if ((x :: xs).all isPr || (x :: xs).all isIn) = true then some (bestOf x xs) else none) = _
      rw [hall]; rfl
    have hmem := best_mem x xs
    rw [← hm] at hmem
    obtain ⟨d, _, hd⟩ := List.mem_map.mp hmem
    have e1 : ixD (ctlD d) (.int 1) = some (.str d.word) := rfl
    simp [truD, hx, ← hd, e1, eqD_str, onD_ctl]
/-! ### by a plain walk -/
def lastB (g : Stm) (b : Bool) : List Deed → Bool
  | [] => b
  | .off _ t :: r => lastB g (if t = g then false else b) r
  | .on _ t :: r => lastB g (if t = g then true else b) r
  | _ :: r => lastB g b r
theorem lawcounts_loop (dv : D) (g : Stm) : ∀ (ds : List Deed) (b : Bool) (x : Sl), ∃ y, forS (ftN 3) Fn.b1__law_counts (ds.map dD) [.dat dv, .dat (dS g), .dat (.bool b), x] = .nx [.dat dv, .dat (dS g), .dat (.bool (lastB g b ds)), y]
  | [], b, x => ⟨x, rfl⟩
  | d :: r, b, x => by
    rw [List.map_cons, forS_cons]
    simp only [ftN_e, List.set_cons_succ, List.set_cons_zero]
    cases d with
    | write s a c =>
      obtain ⟨y, hy⟩ := lawcounts_loop dv g r b (.dat (dD (.write s a c)))
      refine ⟨y, ?_⟩
      rw [show Fn.b1__law_counts [.dat dv, .dat (dS g), .dat (.bool b), .dat (dD (.write s a c))] = .nx [.dat dv, .dat (dS g), .dat (.bool b), .dat (dD (.write s a c))] by simp [Fn.b1__law_counts, inD_2, fits_of, Deed.word]]
      exact hy
    | cut s t =>
      obtain ⟨y, hy⟩ := lawcounts_loop dv g r b (.dat (dD (.cut s t)))
      refine ⟨y, ?_⟩
      rw [show Fn.b1__law_counts [.dat dv, .dat (dS g), .dat (.bool b), .dat (dD (.cut s t))] = .nx [.dat dv, .dat (dS g), .dat (.bool b), .dat (dD (.cut s t))] by simp [Fn.b1__law_counts, inD_2, fits_of, Deed.word]]
      exact hy
    | mark s k f e v =>
      obtain ⟨y, hy⟩ := lawcounts_loop dv g r b (.dat (dD (.mark s k f e v)))
      refine ⟨y, ?_⟩
      rw [show Fn.b1__law_counts [.dat dv, .dat (dS g), .dat (.bool b), .dat (dD (.mark s k f e v))] = .nx [.dat dv, .dat (dS g), .dat (.bool b), .dat (dD (.mark s k f e v))] by simp [Fn.b1__law_counts, inD_2, fits_of, Deed.word]]
      exact hy
    | off s t =>
      obtain ⟨y, hy⟩ := lawcounts_loop dv g r (if t = g then false else b) (.dat (dD (.off s t)))
      refine ⟨y, ?_⟩
      rw [show Fn.b1__law_counts [.dat dv, .dat (dS g), .dat (.bool b), .dat (dD (.off s t))] = .nx [.dat dv, .dat (dS g), .dat (.bool (if t = g then false else b)), .dat (dD (.off s t))] by
        by_cases h : t = g <;> simp [Fn.b1__law_counts, inD_2, fits_of, dD, eqD_S, eqD_str, h]]
      exact hy
    | on s t =>
      obtain ⟨y, hy⟩ := lawcounts_loop dv g r (if t = g then true else b) (.dat (dD (.on s t)))
      refine ⟨y, ?_⟩
      rw [show Fn.b1__law_counts [.dat dv, .dat (dS g), .dat (.bool b), .dat (dD (.on s t))] = .nx [.dat dv, .dat (dS g), .dat (.bool (if t = g then true else b)), .dat (dD (.on s t))] by
        by_cases h : t = g <;> simp [Fn.b1__law_counts, inD_2, fits_of, dD, eqD_S, eqD_str, h]]
      exact hy
theorem F_lawcounts (ds : List Deed) (g : Stm) : Fn.F__law_counts [.tuple (ds.map dD), dS g] = .ok (.bool (lastB g true ds)) := by
  obtain ⟨y, hy⟩ := lawcounts_loop (.tuple (ds.map dD)) g ds true .no
  unfold Fn.F__law_counts
  rw [fnD_2 2]
  simp [Fn.g__law_counts, List.replicate, itemsOf, hy]
/-- in a row with rising stamps the last one is the greatest -/
theorem gtM_ctl {d e : Deed} (h : ltS d.st e.st = true) : gtM (ctlD e) (ctlD d) = true := by
  show (if (e.st.1 == d.st.1 && e.st.2 == d.st.2) = true then _ else ltSt d.st.1 d.st.2 e.st.1 e.st.2) = true
  have hne : ¬ ((e.st.1 == d.st.1 && e.st.2 == d.st.2) = true) := fun z => by
    rw [Bool.and_eq_true] at z
    exact ltS_ne h (Prod.ext (eq_of_beq z.1).symm (eq_of_beq z.2).symm)
  rw [if_neg hne]
  exact h
def Rise (ds : List Deed) : Prop := ds.Pairwise fun a b => ltS a.st b.st = true
theorem Row.rise {ds : List Deed} (h : Row ds) : Rise ds := by
  induction h with
  | nil => exact .nil
  | snoc _ hl _ _ ih =>
    unfold Rise at ih ⊢
    rw [List.pairwise_append]
    exact ⟨ih, List.pairwise_singleton _ _, fun a ha b hb => by simp at hb; subst hb; exact hl a ha⟩
theorem best_last {d : Deed} : ∀ {es : List Deed}, Rise (d :: es) → bestOf (ctlD d) (es.map ctlD) = ctlD ((d :: es).getLast (by simp))
  | [], _ => rfl
  | e :: r, h => by
    have h1 : gtM (ctlD e) (ctlD d) = true := gtM_ctl (List.rel_of_pairwise_cons h List.mem_cons_self)
    show List.foldl _ (if gtM (ctlD e) (ctlD d) then ctlD e else ctlD d) (r.map ctlD) = _
    rw [h1]
    have := best_last (d := e) (es := r) (List.Pairwise.of_cons h)
    unfold bestOf at this
    simpa using this
theorem lastB_filter (g : Stm) : ∀ (ds : List Deed) (b : Bool), lastB g b ds = match (ds.filter (isCtl g)).getLast? with | none => b | some d => decide (d.word = "on")
  | [], b => rfl
  | d :: r, b => by
    cases d with
    | write s a c => simp [lastB, isCtl, List.filter_cons, lastB_filter g r b]
    | cut s t => simp [lastB, isCtl, List.filter_cons, lastB_filter g r b]
    | mark s k f e v => simp [lastB, isCtl, List.filter_cons, lastB_filter g r b]
    | off s t =>
      rw [lastB, lastB_filter g r]
      by_cases h : t = g
      · cases hq : (r.filter (isCtl g)).getLast? with
        | none => simp [isCtl, List.filter_cons, h, List.getLast?_cons, hq, Deed.word]
        | some d => simp [isCtl, List.filter_cons, h, List.getLast?_cons, hq]
      · simp [isCtl, List.filter_cons, h]
    | on s t =>
      rw [lastB, lastB_filter g r]
      by_cases h : t = g
      · cases hq : (r.filter (isCtl g)).getLast? with
        | none => simp [isCtl, List.filter_cons, h, List.getLast?_cons, hq, Deed.word]
        | some d => simp [isCtl, List.filter_cons, h, List.getLast?_cons, hq]
      · simp [isCtl, List.filter_cons, h]
theorem counts_last {ds : List Deed} (h : Rise ds) (g : Stm) : countsB ds g = lastB g true ds := by
  rw [lastB_filter]
  unfold countsB
  have hr : Rise (ds.filter (isCtl g)) := List.Pairwise.filter _ h
  cases hf : ds.filter (isCtl g) with
  | nil => rfl
  | cons d es =>
    rw [hf] at hr
    simp only [List.map_cons]
    rw [best_last hr, onD_ctl, List.getLast?_eq_some_getLast (by simp)]
/-! ### is_shown -/
def cutsOf (ds : List Deed) (s : Stm) : List Deed := ds.filter (isCutOf s)
def shownB (ds : List Deed) (s : Stm) : Bool := countsB ds s && !((cutsOf ds s).any fun d => countsB ds d.st)
theorem blsOf_map {A : Type} (p : A → Bool) : ∀ xs : List A, blsOf (xs.map fun a => .bool (p a)) = some (xs.map p)
  | [] => rfl
  | a :: r => by
    show (blsOf (r.map fun a => .bool (p a))).map (p a :: ·) = _
    rw [blsOf_map p r]; rfl
theorem F_isshown (ds : List Deed) (s : Stm) (h : ds.length ≤ 100000) : Fn.F_is_shown [.tuple (ds.map dD), dS s] = .ok (.bool (shownB ds s)) := by
  have e2 : ∀ x2 x3 x4, Fn.c2_is_shown [.dat (.tuple (ds.map dD)), .dat (dS s), x2, x3, x4] = .ok (.list ((cutsOf ds s).map fun d => dS d.st)) := fun x2 x3 x4 => by
    unfold Fn.c2_is_shown cutsOf
    refine fLc_map dD (isCutOf s) (fun d => dS d.st) ds (by omega) (by simp [itemsOf]) fun d hd => ⟨_, rfl, ?_, fun _ => by simp [wipeS]⟩
    cases d with
    | cut s' t => simp [wipeS, isCutOf, dD, eqD_S, eqD_str]
    | _ => simp [wipeS, eqD_str, Deed.word, isCutOf]
  have hl : (cutsOf ds s).length ≤ ds.length := List.length_filter_le _ _
  have e1 : ∀ x3 x4, Fn.c1_is_shown [.dat (.tuple (ds.map dD)), .dat (dS s), .dat (.list ((cutsOf ds s).map fun d => dS d.st)), x3, x4] = .ok (.list ((cutsOf ds s).map fun d => .bool (countsB ds d.st))) := fun x3 x4 => by
    unfold Fn.c1_is_shown
    refine fLc_all (fun d : Deed => dS d.st) (fun d => .bool (countsB ds d.st)) (cutsOf ds s) (by omega) (by simp [itemsOf]) fun d hd => ⟨_, rfl, ?_⟩
    simp [wipeS, F_counts ds d.st h]
  have ea : anyD (.list ((cutsOf ds s).map fun d => .bool (countsB ds d.st))) = some (.bool ((cutsOf ds s).any fun d => countsB ds d.st)) := by
    show (blsOf _).map _ = _
    rw [blsOf_map]
    simp
  unfold Fn.F_is_shown
  rw [fnD_2 3]
  simp only [Fn.g_is_shown, List.replicate, gSeq_e, gSet_e, e2, So.of_ok, then_nx, List.set_cons_succ, List.set_cons_zero]
  unfold shownB
  cases hc : countsB ds s with
  | false => simp [F_counts ds s h, hc]
  | true => simp [F_counts ds s h, hc, e1, ea]
theorem lawshown_loop (ds : List Deed) (s : Stm) : ∀ (es : List Deed) (x : Sl), (∃ y, forS (ftN 2) Fn.b1__law_is_shown (es.map dD) [.dat (.tuple (ds.map dD)), .dat (dS s), x] = .nx [.dat (.tuple (ds.map dD)), .dat (dS s), y] ∧ (es.filter (isCutOf s)).any (fun d => lastB d.st true ds) = false) ∨
    ∃ δ, forS (ftN 2) Fn.b1__law_is_shown (es.map dD) [.dat (.tuple (ds.map dD)), .dat (dS s), x] = .rt (.bool false) δ ∧ (es.filter (isCutOf s)).any (fun d => lastB d.st true ds) = true
  | [], x => .inl ⟨x, rfl, rfl⟩
  | d :: r, x => by
    rw [List.map_cons, forS_cons]
    simp only [ftN_e, List.set_cons_succ, List.set_cons_zero]
    have step : isCutOf s d = false → Fn.b1__law_is_shown [.dat (.tuple (ds.map dD)), .dat (dS s), .dat (dD d)] = .nx [.dat (.tuple (ds.map dD)), .dat (dS s), .dat (dD d)] := fun h => by
      cases d with
      | cut s' t =>
        have ht : ¬ t = s := by simpa [isCutOf] using h
        simp [Fn.b1__law_is_shown, eqD_str, dD, eqD_S, ht]
      | _ => simp [Fn.b1__law_is_shown, eqD_str, Deed.word]
    cases hc : isCutOf s d with
    | false =>
      rw [step hc, turnS_nx]
      rw [List.filter_cons, hc]
      exact lawshown_loop ds s r _
    | true =>
      cases d with
      | cut s' t =>
        have ht : t = s := by simpa [isCutOf] using hc
        cases hl : lastB s' true ds with
        | true =>
          right
          refine ⟨[.dat (.tuple (ds.map dD)), .dat (dS s), .dat (dD (.cut s' t))], ?_, by simp [List.filter_cons, hc, hl, Deed.st]⟩
          simp [Fn.b1__law_is_shown, eqD_str, dD, eqD_S, ht, F_lawcounts, hl]
        | false =>
          have e : Fn.b1__law_is_shown [.dat (.tuple (ds.map dD)), .dat (dS s), .dat (dD (.cut s' t))] = .nx [.dat (.tuple (ds.map dD)), .dat (dS s), .dat (dD (.cut s' t))] := by
            simp [Fn.b1__law_is_shown, eqD_str, dD, eqD_S, ht, F_lawcounts, hl]
          rw [e, turnS_nx]
          have : ((Deed.cut s' t) :: r).filter (isCutOf s) = (Deed.cut s' t) :: r.filter (isCutOf s) := by rw [List.filter_cons, hc]; rfl
          rw [this, List.any_cons]
          show (∃ y, _ ∧ (lastB s' true ds || _) = false) ∨ ∃ δ, _ ∧ (lastB s' true ds || _) = true
          rw [hl, Bool.false_or]
          exact lawshown_loop ds s r _
      | _ => cases hc
def lawShownB (ds : List Deed) (s : Stm) : Bool := lastB s true ds && !((cutsOf ds s).any fun d => lastB d.st true ds)
theorem F_lawshown (ds : List Deed) (s : Stm) : Fn.F__law_is_shown [.tuple (ds.map dD), dS s] = .ok (.bool (lawShownB ds s)) := by
  unfold Fn.F__law_is_shown lawShownB cutsOf
  rw [fnD_2 1]
  rcases lawshown_loop ds s ds .no with ⟨y, hy, hc⟩ | ⟨δ, hy, hc⟩
  · simp [Fn.g__law_is_shown, List.replicate, itemsOf, hy, hc, F_lawcounts]
  · simp [Fn.g__law_is_shown, List.replicate, itemsOf, hy, hc]
theorem shown_last {ds : List Deed} (h : Rise ds) (s : Stm) : shownB ds s = lawShownB ds s := by
  unfold shownB lawShownB
  have : (fun d : Deed => countsB ds d.st) = fun d => lastB d.st true ds := funext fun d => counts_last h d.st
  rw [counts_last h, this]
end Hm
/-! Pu5: the order of letters -/
namespace Hm
open PySem PySem.SeqAt L2
/-- the letters written behind a, as they come -/
def kids (a : Option Stm) : List Deed → List Stm
  | [] => []
  | .write s b _ :: r => if b = a then s :: kids a r else kids a r
  | _ :: r => kids a r
theorem kids_append (a : Option Stm) : ∀ x y : List Deed, kids a (x ++ y) = kids a x ++ kids a y
  | [], _ => rfl
  | d :: r, y => by
    cases d with
    | write s b c =>
      simp only [List.cons_append, kids, kids_append a r y]
      split <;> simp
    | _ => simp [kids, kids_append a r y]
theorem kids_reverse (a : Option Stm) : ∀ x : List Deed, kids a x.reverse = (kids a x).reverse
  | [] => rfl
  | d :: r => by
    rw [List.reverse_cons, kids_append, kids_reverse a r]
    cases d with
    | write s b c =>
      simp only [kids]
      split <;> simp
    | _ => simp [kids]
theorem kids_sub (a : Option Stm) : ∀ {x : List Deed} {s : Stm}, s ∈ kids a x → s ∈ letS x
  | d :: r, s, h => by
    cases d with
    | write t b c =>
      simp only [kids] at h
      simp only [letS, List.mem_cons]
      split at h
      · rcases List.mem_cons.mp h with h | h
        · exact .inl h
        · exact .inr (kids_sub a h)
      · exact .inr (kids_sub a h)
    | _ => exact kids_sub a (x := r) (by simpa [kids] using h)
theorem kids_len (a : Option Stm) (x : List Deed) : (kids a x).length ≤ x.length := by
  induction x with
  | nil => exact Nat.le_refl _
  | cons d r ih =>
    cases d with
    | write t b c =>
      simp only [kids]
      split
      · simp; omega
      · simp; omega
    | _ => simp [kids]; omega
theorem kids_mem (a : Option Stm) : ∀ {x : List Deed} {s : Stm}, s ∈ kids a x ↔ ∃ c, Deed.write s a c ∈ x
  | [], s => by simp [kids]
  | d :: r, s => by
    have ih := kids_mem a (x := r) (s := s)
    cases d with
    | write t b c =>
      simp only [kids, List.mem_cons]
      split
      · rename_i h
        subst h
        rw [List.mem_cons, ih]
        constructor
        · rintro (rfl | ⟨c', h⟩)
          · exact ⟨c, .inl rfl⟩
          · exact ⟨c', .inr h⟩
        · rintro ⟨c', h | h⟩
          · cases h; exact .inl rfl
          · exact .inr ⟨c', h⟩
      · rename_i h
        rw [ih]
        constructor
        · rintro ⟨c', h'⟩
          exact ⟨c', .inr h'⟩
        · rintro ⟨c', h' | h'⟩
          · cases h'; exact absurd rfl h
          · exact ⟨c', h'⟩
    | _ => simpa [kids] using ih
theorem letS_mem {x : List Deed} {s : Stm} : s ∈ letS x ↔ ∃ a c, Deed.write s a c ∈ x := by
  induction x with
  | nil => simp [letS]
  | cons d r ih =>
    cases d with
    | write t b c =>
      simp only [letS, List.mem_cons, ih]
      constructor
      · rintro (rfl | ⟨a, c', h⟩)
        · exact ⟨b, c, .inl rfl⟩
        · exact ⟨a, c', .inr h⟩
      · rintro ⟨a, c', h | h⟩
        · cases h; exact .inl rfl
        · exact .inr ⟨a, c', h⟩
    | _ => simpa [letS] using ih
theorem kids_nodup (a : Option Stm) : ∀ {x : List Deed}, (letS x).Nodup → (kids a x).Nodup
  | [], _ => .nil
  | d :: r, h => by
    cases d with
    | write t b c =>
      simp only [letS, List.nodup_cons] at h
      simp only [kids]
      split
      · exact List.nodup_cons.mpr ⟨fun z => h.1 (kids_sub a z), kids_nodup a h.2⟩
      · exact kids_nodup a h.2
    | _ => exact kids_nodup a (x := r) (by simpa [letS] using h)
/-- a letter is written once -/
theorem one_write {x : List Deed} (h : (letS x).Nodup) {s : Stm} {a b : Option Stm} {c d : Str} (h1 : Deed.write s a c ∈ x) (h2 : Deed.write s b d ∈ x) : a = b ∧ c = d := by
  induction x with
  | nil => simp at h1
  | cons e r ih =>
    have hr : (letS r).Nodup := by
      cases e with
      | write t b c => exact (List.nodup_cons.mp h).2
      | _ => exact h
    have no : ∀ {s a c b d}, e = Deed.write s a c → Deed.write s b d ∈ r → False := fun {s a c b d} he hm => by
      subst he
      exact (List.nodup_cons.mp h).1 (letS_mem.mpr ⟨_, _, hm⟩)
    rcases List.mem_cons.mp h1 with e1 | e1 <;> rcases List.mem_cons.mp h2 with e2 | e2
    · rw [← e1] at e2; cases e2; exact ⟨rfl, rfl⟩
    · exact (no e1.symm e2).elim
    · exact (no e2.symm e1).elim
    · exact ih hr e1 e2
/-- rows whose letters can be ordered -/
structure Wr (ds : List Deed) : Prop where
  nd : (letS ds).Nodup
  up : ∀ s t c, Deed.write s (some t) c ∈ ds → ltS t s = true
def leS (s t : Stm) : Bool := !ltS t s
def sKids (ds : List Deed) (a : Option Stm) : List Stm := (kids a ds).mergeSort leS
theorem sKids_perm (ds : List Deed) (a : Option Stm) : (sKids ds a).Perm (kids a ds) := List.mergeSort_perm _ _
theorem sKids_mem {ds : List Deed} {a : Option Stm} {s : Stm} : s ∈ sKids ds a ↔ s ∈ kids a ds := (sKids_perm ds a).mem_iff
theorem sKids_len (ds : List Deed) (a : Option Stm) : (sKids ds a).length = (kids a ds).length := (sKids_perm ds a).length_eq
theorem sortS_kids (ds : List Deed) (a : Option Stm) : sortS ((kids a ds).map dS) = (sKids ds a).map dS := by
  unfold sortS sKids
  rw [List.map_mergeSort]
  intro s _ t _
  rfl
/-- in a row with rising stamps they come in order -/
theorem kids_rise (a : Option Stm) : ∀ {x : List Deed}, Rise x → (kids a x).Pairwise fun s t => ltS s t = true
  | [], _ => .nil
  | d :: r, h => by
    have hr := kids_rise a (List.Pairwise.of_cons h)
    cases d with
    | write t b c =>
      simp only [kids]
      split
      · refine List.pairwise_cons.mpr ⟨fun s hs => ?_, hr⟩
        obtain ⟨c', hm⟩ := (kids_mem a).mp hs
        exact List.rel_of_pairwise_cons h hm
      · exact hr
    | _ => exact hr
theorem sKids_rise {ds : List Deed} (h : Rise ds) (a : Option Stm) : sKids ds a = kids a ds := by
  unfold sKids
  refine List.mergeSort_of_pairwise (List.Pairwise.imp (fun {s t} hst => ?_) (kids_rise a h))
  unfold leS
  rw [ltS_asymm hst]
  rfl
/-! ### from one letter to all behind it -/
inductive Dfs (ds : List Deed) : List Stm → List Stm → Prop
  | nil : Dfs ds [] []
  | step {L R : List Stm} {s : Stm} : Dfs ds (L ++ sKids ds (some s)) R → Dfs ds (L ++ [s]) (s :: R)
def dfsF (ds : List Deed) : Nat → Option Stm → List Stm
  | 0, _ => []
  | n + 1, a => (sKids ds a).reverse.flatMap fun c => c :: dfsF ds n (some c)
def gtO : Option Stm → Stm → Bool
  | none, _ => true
  | some t, s => ltS t s
def above (ds : List Deed) (a : Option Stm) : List Stm := (letS ds).filter (gtO a)
theorem filter_lt {t : Type} {p q : t → Bool} : ∀ {l : List t} {x : t}, x ∈ l → q x = true → p x = false → (∀ y ∈ l, p y = true → q y = true) → (l.filter p).length < (l.filter q).length
  | y :: r, x, hx, hq, hp, h => by
    have le : ∀ l' : List t, (∀ y ∈ l', p y = true → q y = true) → (l'.filter p).length ≤ (l'.filter q).length := fun l' hl => by
      induction l' with
      | nil => exact Nat.le_refl _
      | cons z u ih =>
        have := ih fun y hy => hl y (List.mem_cons_of_mem _ hy)
        have hz := hl z List.mem_cons_self
        rw [List.filter_cons, List.filter_cons]
        cases hpz : p z with
        | false => cases q z <;> simp <;> omega
        | true => rw [hz hpz]; simp; exact this
    rw [List.filter_cons, List.filter_cons]
    rcases List.mem_cons.mp hx with rfl | hx
    · rw [hp, hq]
      have := le r fun y hy => h y (List.mem_cons_of_mem _ hy)
      simp; omega
    · have ih := filter_lt hx hq hp fun y hy => h y (List.mem_cons_of_mem _ hy)
      cases hpy : p y with
      | false => cases q y <;> simp <;> omega
      | true => rw [h y List.mem_cons_self hpy]; simp; exact ih
theorem kid_gt {ds : List Deed} (w : Wr ds) {a : Option Stm} {c : Stm} (h : c ∈ kids a ds) : gtO a c = true := by
  obtain ⟨x, hm⟩ := (kids_mem a).mp h
  cases a with
  | none => rfl
  | some t => exact w.up c t x hm
theorem above_lt {ds : List Deed} (w : Wr ds) {a : Option Stm} {c : Stm} (h : c ∈ kids a ds) : (above ds (some c)).length < (above ds a).length := by
  refine filter_lt (x := c) (kids_sub a h) (kid_gt w h) (ltS_irrefl c) fun y _ hy => ?_
  have hc := kid_gt w h
  cases a with
  | none => rfl
  | some t => exact ltS_trans hc hy
theorem dfs_of {ds : List Deed} (w : Wr ds) : ∀ (n : Nat) (a : Option Stm), (above ds a).length < n → ∀ L' R', Dfs ds L' R' → Dfs ds (L' ++ sKids ds a) (dfsF ds n a ++ R')
  | 0, _, h, _, _, _ => by omega
  | n + 1, a, h, L', R', hd => by
    have key : ∀ (cs : List Stm), (∀ c ∈ cs, c ∈ sKids ds a) → Dfs ds (L' ++ cs) ((cs.reverse.flatMap fun c => c :: dfsF ds n (some c)) ++ R') := fun cs => by
      generalize hrev : cs.reverse = rs
      induction rs generalizing cs with
      | nil =>
        have : cs = [] := by simpa using hrev
        subst this
        intro _
        simpa using hd
      | cons c r ih =>
        have hcs : cs = r.reverse ++ [c] := by rw [← List.reverse_cons, ← hrev, List.reverse_reverse]
        subst hcs
        intro hall
        have ih' := ih r.reverse (by simp) fun x hx => hall x (List.mem_append.mpr (.inl hx))
        have hc : c ∈ kids a ds := sKids_mem.mp (hall c (by simp))
        have hlt := above_lt w hc
        have hst := Dfs.step (dfs_of w n (some c) (by omega) _ _ ih')
        rw [List.append_assoc] at hst
        simpa only [List.flatMap_cons, List.cons_append, List.append_assoc] using hst
    exact key (sKids ds a) fun c hc => hc
theorem above_le (ds : List Deed) (a : Option Stm) : (above ds a).length ≤ ds.length := Nat.le_trans (List.length_filter_le _ _) (letS_le ds)
def orderOf (ds : List Deed) : List Stm := dfsF ds (ds.length + 1) none
theorem dfs_order {ds : List Deed} (w : Wr ds) : Dfs ds (sKids ds none) (orderOf ds) := by
  have := dfs_of w (ds.length + 1) none (by have := above_le ds none; omega) [] [] .nil
  simpa [orderOf] using this
/-- enough is as good as more -/
theorem dfsF_enough {ds : List Deed} (w : Wr ds) : ∀ (n m : Nat) (a : Option Stm), (above ds a).length < n → (above ds a).length < m → dfsF ds n a = dfsF ds m a
  | 0, _, _, h, _ => by omega
  | _ + 1, 0, _, _, h => by omega
  | n + 1, m + 1, a, h1, h2 => by
    unfold dfsF
    have : ∀ l : List Stm, (∀ c ∈ l, c ∈ sKids ds a) → (l.flatMap fun c => c :: dfsF ds n (some c)) = l.flatMap fun c => c :: dfsF ds m (some c) := fun l hl => by
      induction l with
      | nil => rfl
      | cons c r ih =>
        have hlt := above_lt w (sKids_mem.mp (hl c List.mem_cons_self))
        rw [List.flatMap_cons, List.flatMap_cons, dfsF_enough w n m (some c) (by omega) (by omega), ih fun x hx => hl x (List.mem_cons_of_mem _ hx)]
    exact this _ fun c hc => by simpa using hc
/-- what is met is met once -/
structure Met (ds : List Deed) (a : Option Stm) (V L : List Stm) : Prop where
  nd : (V ++ L).Nodup
  sub : ∀ c ∈ V ++ L, c ∈ letS ds ∧ gtO a c = true
  par : ∀ c ∈ V ++ L, c ∈ kids a ds ∨ ∃ p ∈ V, c ∈ kids (some p) ds
theorem Dfs.met {ds : List Deed} (w : Wr ds) {a : Option Stm} {L R : List Stm} (h : Dfs ds L R) : ∀ V, Met ds a V L → (V ++ R).Nodup ∧ ∀ c ∈ V ++ R, c ∈ letS ds ∧ gtO a c = true := by
  induction h with
  | nil => exact fun V m => ⟨m.nd, m.sub⟩
  | step _ ih =>
    rename_i L R s _
    intro V m
    have hnd := m.nd
    have e : V ++ (L ++ [s]) = (V ++ L) ++ [s] := by rw [List.append_assoc]
    have hs : s ∉ V ++ L := by
      rw [e, List.nodup_append] at hnd
      exact fun z => hnd.2.2 s z s (by simp) rfl
    have hsS : s ∈ letS ds ∧ gtO a s = true := m.sub s (by rw [e]; simp)
    have hsa : a ≠ some s := fun z => by
      have := hsS.2
      rw [z] at this
      show False
      have h2 : ltS s s = true := this
      rw [ltS_irrefl] at h2
      cases h2
    have hnew : ∀ c ∈ sKids ds (some s), c ∉ V ++ (L ++ [s]) := fun c hc hm => by
      have hk := sKids_mem.mp hc
      obtain ⟨x, hx⟩ := (kids_mem _).mp hk
      rcases m.par c hm with h | ⟨p, hp, h⟩
      · obtain ⟨y, hy⟩ := (kids_mem _).mp h
        exact hsa (one_write w.nd hy hx).1
      · obtain ⟨y, hy⟩ := (kids_mem _).mp h
        have := (one_write w.nd hy hx).1
        cases this
        exact hs (List.mem_append.mpr (.inl hp))
    have hgt : ∀ c ∈ sKids ds (some s), c ∈ letS ds ∧ gtO a c = true := fun c hc => by
      have hk := sKids_mem.mp hc
      refine ⟨kids_sub _ hk, ?_⟩
      have h1 := kid_gt w hk
      have h2 := hsS.2
      cases a with
      | none => rfl
      | some t => exact ltS_trans h2 h1
    have := ih (V ++ [s]) ⟨?_, ?_, ?_⟩
    · have e2 : V ++ s :: R = V ++ [s] ++ R := by simp
      rw [e2]
      exact this
    · have p1 : (V ++ [s] ++ (L ++ sKids ds (some s))).Perm ((V ++ (L ++ [s])) ++ sKids ds (some s)) := by
        simp only [List.append_assoc]
        refine List.Perm.append_left V ?_
        rw [← List.append_assoc, ← List.append_assoc]
        exact List.Perm.append_right _ List.perm_append_comm
      rw [p1.nodup_iff, List.nodup_append]
      refine ⟨hnd, (sKids_perm ds (some s)).nodup_iff.mpr (kids_nodup _ w.nd), fun x hx y hy e => ?_⟩
      subst e
      exact hnew x hy hx
    · intro c hc
      simp only [List.mem_append] at hc
      rcases hc with (h | h) | (h | h)
      · exact m.sub c (by simp [h])
      · exact m.sub c (by simp at h; simp [h])
      · exact m.sub c (by simp [h])
      · exact hgt c h
    · intro c hc
      simp only [List.mem_append] at hc
      have old : c ∈ V ++ (L ++ [s]) → c ∈ kids a ds ∨ ∃ p ∈ V ++ [s], c ∈ kids (some p) ds := fun z => by
        rcases m.par c z with h | ⟨p, hp, h⟩
        · exact .inl h
        · exact .inr ⟨p, List.mem_append.mpr (.inl hp), h⟩
      rcases hc with (h | h) | (h | h)
      · exact old (by simp [h])
      · exact old (by simp at h; simp [h])
      · exact old (by simp [h])
      · exact .inr ⟨s, by simp, sKids_mem.mp h⟩
theorem met_start {ds : List Deed} (w : Wr ds) (a : Option Stm) : Met ds a [] (sKids ds a) where
  nd := (sKids_perm ds a).nodup_iff.mpr (kids_nodup a w.nd)
  sub := fun c hc => ⟨kids_sub a (sKids_mem.mp hc), kid_gt w (sKids_mem.mp hc)⟩
  par := fun c hc => .inl (sKids_mem.mp hc)
theorem nodup_len {t : Type} [DecidableEq t] : ∀ {l m : List t}, l.Nodup → (∀ x ∈ l, x ∈ m) → l.length ≤ m.length
  | [], _, _, _ => Nat.zero_le _
  | x :: r, m, h, hs => by
    have hx := hs x List.mem_cons_self
    have := nodup_len (l := r) (m := m.erase x) (List.nodup_cons.mp h).2 fun y hy => by
      have hne : y ≠ x := fun e => (List.nodup_cons.mp h).1 (e ▸ hy)
      exact (List.mem_erase_of_ne hne).mpr (hs y (List.mem_cons_of_mem _ hy))
    rw [List.length_erase_of_mem hx] at this
    have hp : 0 < m.length := List.length_pos_iff.mpr (List.ne_nil_of_mem hx)
    simp; omega
theorem dfsF_len {ds : List Deed} (w : Wr ds) {n : Nat} {a : Option Stm} (h : (above ds a).length < n) : (dfsF ds n a).length ≤ (letS ds).length := by
  have hd := dfs_of w n a h [] [] .nil
  simp only [List.nil_append, List.append_nil] at hd
  have := hd.met w [] (met_start w a)
  exact nodup_len this.1 fun x hx => (this.2 x hx).1
theorem order_len {ds : List Deed} (w : Wr ds) : (orderOf ds).length ≤ (letS ds).length := dfsF_len w (by have := above_le ds none; omega)
theorem order_nodup {ds : List Deed} (w : Wr ds) : (orderOf ds).Nodup := ((dfs_order w).met w [] (met_start w none)).1
theorem order_sub {ds : List Deed} (w : Wr ds) : ∀ s ∈ orderOf ds, s ∈ letS ds := fun s hs => (((dfs_order w).met w [] (met_start w none)).2 s hs).1
theorem Dfs.le {ds : List Deed} {L R : List Stm} (h : Dfs ds L R) : L.length ≤ R.length := by
  induction h with
  | nil => exact Nat.le_refl _
  | step _ ih => simp at ih ⊢; omega
/-! ### a row is such -/
theorem Row.letS_lt {ds : List Deed} (h : Rise ds) : (letS ds).Pairwise fun s t => ltS s t = true := by
  induction ds with
  | nil => exact .nil
  | cons d r ih =>
    have ih := ih (List.Pairwise.of_cons h)
    cases d with
    | write t b c =>
      refine List.pairwise_cons.mpr ⟨fun s hs => ?_, ih⟩
      obtain ⟨a, c', hm⟩ := letS_mem.mp hs
      exact List.rel_of_pairwise_cons h hm
    | _ => exact ih
theorem Row.nx {ds : List Deed} (h : Row ds) : ∀ d ∈ ds, ∃ es, (∀ e ∈ es, e ∈ ds ∧ ltS e.st d.st = true) ∧ Nx es d := by
  induction h with
  | nil => intro d hd; simp at hd
  | snoc _ hl _ hn ih =>
    rename_i ds d _ _
    intro e he
    rcases List.mem_append.mp he with he | he
    · obtain ⟨es, h1, h2⟩ := ih e he
      exact ⟨es, fun x hx => ⟨List.mem_append.mpr (.inl (h1 x hx).1), (h1 x hx).2⟩, h2⟩
    · simp at he
      subst he
      exact ⟨ds, fun x hx => ⟨List.mem_append.mpr (.inl hx), hl x hx⟩, hn⟩
theorem Row.wr {ds : List Deed} (h : Row ds) : Wr ds where
  nd := List.Pairwise.imp (fun {s t} hst => ltS_ne hst) (Row.letS_lt h.rise)
  up := fun s t c hm => by
    obtain ⟨es, h1, h2⟩ := h.nx _ hm
    obtain ⟨a, c', hx⟩ := letS_mem.mp (h2.1 t rfl)
    exact (h1 _ hx).2
end Hm
/-! Pu6: order, reckoned -/
namespace Hm
open PySem PySem.SeqAt L2
/-! ### keys -/
def kO : Option Stm → NestedKey
  | none => .none
  | some s => .tup [.num s.1, .text s.2]
theorem keyOf_O (a : Option Stm) : keyOf (dO a) = some (kO a) := by cases a <;> rfl
theorem keyOf_S (s : Stm) : keyOf (dS s) = some (kO (some s)) := rfl
theorem kO_inj {a b : Option Stm} (h : kO a = kO b) : a = b := by
  cases a with
  | none => cases b with
    | none => rfl
    | some t => cases h
  | some s => cases b with
    | none => cases h
    | some t =>
      obtain ⟨s1, s2⟩ := s
      obtain ⟨t1, t2⟩ := t
      simp only [kO, NestedKey.tup.injEq, List.cons.injEq, NestedKey.num.injEq, NestedKey.text.injEq, and_true] at h
      obtain ⟨rfl, rfl⟩ := h
      rfl
theorem dLook_map_keys {t u : Type} (f : D × t → D × u) (hf : ∀ p, (f p).1 = p.1) (n : NestedKey) : ∀ kvs : List (D × t), dLook (kvs.map f) n = (kvs.find? fun p => decide (keyOf p.1 = some n)).map fun p => (f p).2
  | [] => rfl
  | p :: r => by
    unfold dLook
    rw [List.map_cons, List.find?_cons, List.find?_cons, hf p]
    cases h : decide (keyOf p.1 = some n) with
    | true => rfl
    | false => exact dLook_map_keys f hf n r
theorem dLook_addTo (kvs : List (D × List D)) (n m : NestedKey) (d : D) : dLook (addTo kvs n d) m = (dLook kvs m).map fun xs => if m = n then xs ++ [d] else xs := by
  unfold addTo
  rw [dLook_map_keys _ (fun p => by split <;> rfl)]
  unfold dLook
  cases h : kvs.find? fun p => decide (keyOf p.1 = some m) with
  | none => rfl
  | some p =>
    have hp : keyOf p.1 = some m := by have := List.find?_some h; simpa using this
    simp only [Option.map_some, hp, Option.some.injEq]
    by_cases hmn : m = n <;> simp [hmn]
theorem dLook_append {t : Type} (kvs lws : List (D × t)) (n : NestedKey) : dLook (kvs ++ lws) n = (dLook kvs n).or (dLook lws n) := by
  unfold dLook
  rw [List.find?_append]
  cases kvs.find? fun p => decide (keyOf p.1 = some n) <;> rfl
theorem dHas_look {t : Type} (kvs : List (D × t)) (n : NestedKey) : dHas kvs n = (dLook kvs n).isSome := by
  unfold dHas dLook
  rw [Option.isSome_map, List.isSome_find?]

/-! ### what is written behind what -/
structure Bh (ds : List Deed) (kvs : List (D × List D)) : Prop where
  look : ∀ a, (dLook kvs (kO a)).getD [] = (kids a ds).map dS
  len : kvs.length ≤ ds.length
  all : ∀ p ∈ kvs, p.2.length ≤ ds.length
theorem Bh.skip {ds : List Deed} {kvs : List (D × List D)} (h : Bh ds kvs) {d : Deed} (hd : ∀ a, kids a [d] = []) : Bh (ds ++ [d]) kvs where
  look := fun a => by rw [kids_append, hd, List.append_nil]; exact h.look a
  len := by have := h.len; simp; omega
  all := fun p hp => by have := h.all p hp; simp; omega
theorem Bh.add {ds : List Deed} {kvs : List (D × List D)} (h : Bh ds kvs) (s : Stm) (a : Option Stm) (c : Str) : Bh (ds ++ [.write s a c]) (addTo (ens kvs (dO a) (kO a)) (kO a) (dS s)) where
  look := fun b => by
    rw [dLook_addTo, kids_append]
    have hens : ∀ m, (dLook (ens kvs (dO a) (kO a)) m) = (dLook kvs m).or (if m = kO a then some [] else none) := fun m => by
      unfold ens
      rw [dHas_look]
      cases hl : dLook kvs (kO a) with
      | some xs =>
        simp only [Option.isSome_some, if_true]
        by_cases e : m = kO a
        · subst e; rw [hl]; rfl
        · rw [if_neg e]; cases dLook kvs m <;> rfl
      | none =>
        simp only [Option.isSome_none, Bool.false_eq_true, if_false]
        rw [dLook_append]
        have : dLook [(dO a, ([] : List D))] m = if m = kO a then some [] else none := by
          unfold dLook
          rw [List.find?_cons]
          simp only [keyOf_O, Option.some.injEq]
          by_cases e : m = kO a
          · subst e; simp
          · have : ¬ kO a = m := fun z => e z.symm
            simp [e, this]
        rw [this]
    rw [hens]
    have hb := h.look b
    by_cases e : b = a
    · subst e
      simp only [if_true]
      cases hl : dLook kvs (kO b) with
      | none =>
        rw [hl] at hb
        have : kids b ds = [] := by simpa using hb.symm
        simp [this, kids]
      | some xs =>
        rw [hl] at hb
        have : xs = (kids b ds).map dS := by simpa using hb
        simp [this, kids]
    · have e2 : ¬ kO b = kO a := fun z => e (kO_inj z)
      have e3 : ¬ a = b := fun z => e z.symm
      simp only [e2, if_false, kids, e3, List.append_nil]
      rw [← hb]
      cases dLook kvs (kO b) <;> rfl
  len := by
    have := h.len
    unfold addTo ens
    split <;> simp <;> omega
  all := fun p hp => by
    unfold addTo at hp
    obtain ⟨q, hq, rfl⟩ := List.mem_map.mp hp
    have hql : q.2.length ≤ ds.length := by
      unfold ens at hq
      split at hq
      · exact h.all q hq
      · rcases List.mem_append.mp hq with hq | hq
        · exact h.all q hq
        · simp at hq; subst hq; exact Nat.zero_le _
    split
    · simp; omega
    · simp; omega
theorem gSda_eq {δ : Dl} {i : Nat} {fk fe : Fe} {kvs : List (D × List D)} {k d : D} {n : NestedKey} (h1 : δ[i]? = some (.own2 kvs)) (h2 : fk δ = .ok k) (h3 : keyOf k = some n) (h4 : fits (kvs.length + 1) = true)
    (h5 : fe (δ.set i (.own2 (ens kvs k n))) = .ok d) (h6 : (ens kvs k n).all (fun p => fits (p.2.length + 1)) = true) : gSda i fk fe δ = .nx (δ.set i (.own2 (addTo (ens kvs k n) n d))) := by
  unfold gSda
  rw [h1]
  simp only [h2, h3, h4, h5, h6, if_true]
theorem order_l1 (dv : D) : ∀ (es pre : List Deed) (kvs : List (D × List D)) (x : Sl), Bh pre kvs → pre.length + es.length ≤ 100000 → ∃ kvs' y, forS (ftN 2) Fn.b2_order (es.map dD) [.dat dv, .own2 kvs, x, .no, .no, .no] = .nx [.dat dv, .own2 kvs', y, .no, .no, .no] ∧ Bh (pre ++ es) kvs'
  | [], pre, kvs, x, h, _ => ⟨kvs, x, rfl, by simpa using h⟩
  | d :: r, pre, kvs, x, h, hl => by
    rw [List.map_cons, forS_cons]
    simp only [ftN_e, List.set_cons_succ, List.set_cons_zero]
    have hl' : pre.length + (r.length + 1) ≤ 100000 := by simpa using hl
    have skip : (∀ a, kids a [d] = []) → Fn.b2_order [.dat dv, .own2 kvs, .dat (dD d), .no, .no, .no] = .nx [.dat dv, .own2 kvs, .dat (dD d), .no, .no, .no] → ∃ kvs' y, turnS (ftN 2) Fn.b2_order (r.map dD) (Fn.b2_order [.dat dv, .own2 kvs, .dat (dD d), .no, .no, .no]) = .nx [.dat dv, .own2 kvs', y, .no, .no, .no] ∧ Bh (pre ++ d :: r) kvs' := fun hk he => by
      obtain ⟨kvs', y, h1, h2⟩ := order_l1 dv r (pre ++ [d]) kvs (.dat (dD d)) (h.skip hk) (by simp; omega)
      exact ⟨kvs', y, by rw [he, turnS_nx]; exact h1, by simpa using h2⟩
    cases d with
    | write s a c =>
      obtain ⟨kvs', y, h1, h2⟩ := order_l1 dv r (pre ++ [.write s a c]) _ (.dat (dD (.write s a c))) (h.add s a c) (by simp; omega)
      refine ⟨kvs', y, ?_, by simpa using h2⟩
      have hlen := h.len
      have e : Fn.b2_order [.dat dv, .own2 kvs, .dat (dD (.write s a c)), .no, .no, .no] = .nx [.dat dv, .own2 (addTo (ens kvs (dO a) (kO a)) (kO a) (dS s)), .dat (dD (.write s a c)), .no, .no, .no] := by
        unfold Fn.b2_order
        rw [gIf_t _ _ _ _ (by simp [eqD_str, Deed.word])]
        refine (gSda_eq (i := 1) (kvs := kvs) (k := dO a) (d := dS s) (n := kO a) rfl (by simp [dD]) (keyOf_O a) (fits_of (by omega)) (by simp [dD]) ?_)
        rw [List.all_eq_true]
        intro p hp
        unfold ens at hp
        have hq : p.2.length ≤ pre.length := by
          split at hp
          · exact h.all p hp
          · rcases List.mem_append.mp hp with hp | hp
            · exact h.all p hp
            · simp at hp; subst hp; exact Nat.zero_le _
        exact fits_of (by omega)
      rw [e, turnS_nx]
      exact h1
    | cut s t => exact skip (fun a => rfl) (by simp [Fn.b2_order, eqD_str, Deed.word])
    | mark s k f e v => exact skip (fun a => rfl) (by simp [Fn.b2_order, eqD_str, Deed.word])
    | off s t => exact skip (fun a => rfl) (by simp [Fn.b2_order, eqD_str, Deed.word])
    | on s t => exact skip (fun a => rfl) (by simp [Fn.b2_order, eqD_str, Deed.word])
/-! ### the walk -/
theorem allSt (ls : List Stm) : (ls.map dS).all isSt = true := by
  rw [List.all_eq_true]
  intro x hx
  obtain ⟨s, _, rfl⟩ := List.mem_map.mp hx
  rfl
theorem sorted_kids {ds : List Deed} {a : Option Stm} (h : ds.length ≤ 100000) : sortedD (.list ((kids a ds).map dS)) = some (.list ((sKids ds a).map dS)) := by
  show (if (((kids a ds).map dS).all isSt && fits ((kids a ds).map dS).length) = true then some (PyData.list (sortS ((kids a ds).map dS))) else none) = _
  have := kids_len a ds
  rw [allSt, List.length_map, fits_of (by omega), sortS_kids]
  rfl
theorem order_l2 {ds : List Deed} {kvs : List (D × List D)} (hb : Bh ds kvs) (hl : ds.length ≤ 100000) (dv : D) (x : Sl) {L R : List Stm} (h : Dfs ds L R) : ∀ (V : List Stm) (n : Nat) (y : Sl), R.length < n → V.length + R.length ≤ 100000 →
    ∃ z, whileS (bTr (fSn 4)) Fn.b1_order n [.dat dv, .own2 kvs, x, .own (.list (V.map dS)), .own (.list (L.map dS)), y] = .nx [.dat dv, .own2 kvs, x, .own (.list ((V ++ R).map dS)), .own (.list []), z] := by
  induction h with
  | nil =>
    intro V n y hn _
    obtain ⟨m, rfl⟩ : ∃ m, n = m + 1 := ⟨n - 1, by simp at hn; omega⟩
    refine ⟨y, ?_⟩
    unfold whileS
    simp [truD]
  | step hd ih =>
    rename_i L R s
    intro V n y hn hlen
    obtain ⟨m, rfl⟩ : ∃ m, n = m + 1 := ⟨n - 1, by simp at hn; omega⟩
    obtain ⟨z, hz⟩ := ih (V ++ [s]) m (.dat (dS s)) (by simp at hn; omega) (by simp at hlen ⊢; omega)
    refine ⟨z, ?_⟩
    have hle := hd.le
    have hc : bTr (fSn 4) [.dat dv, .own2 kvs, x, .own (.list (V.map dS)), .own (.list ((L ++ [s]).map dS)), y] = .ok true := by simp [truD]
    have e : Fn.b1_order [.dat dv, .own2 kvs, x, .own (.list (V.map dS)), .own (.list ((L ++ [s]).map dS)), y] = .nx [.dat dv, .own2 kvs, x, .own (.list ((V ++ [s]).map dS)), .own (.list ((L ++ sKids ds (some s)).map dS)), .dat (dS s)] := by
      have e1 : gPop 5 4 [.dat dv, .own2 kvs, x, .own (.list (V.map dS)), .own (.list ((L ++ [s]).map dS)), y] = .nx [.dat dv, .own2 kvs, x, .own (.list (V.map dS)), .own (.list (L.map dS)), .dat (dS s)] := by
        simp [gPop]
      have hfV : fits (V.length + 1) = true := fits_of (by simp at hlen; omega)
      have e2 : gApp 3 (fVar 5) [.dat dv, .own2 kvs, x, .own (.list (V.map dS)), .own (.list (L.map dS)), .dat (dS s)] = .nx [.dat dv, .own2 kvs, x, .own (.list ((V ++ [s]).map dS)), .own (.list (L.map dS)), .dat (dS s)] := by
        simp [gApp, hfV]
      have e3 : fGet2 1 (fVar 5) [.dat dv, .own2 kvs, x, .own (.list ((V ++ [s]).map dS)), .own (.list (L.map dS)), .dat (dS s)] = .ok (.list ((kids (some s) ds).map dS)) := by
        unfold fGet2
        simp only [List.getElem?_cons_succ, List.getElem?_cons_zero, fVar_s, fVar_0, Rs.ok_bind, keyOf_S, Rs.of_some, hb.look]
      have hfL : fits (L.length + (sKids ds (some s)).length) = true := fits_of (by simp at hle hlen; omega)
      have e4 : gExt 4 (fCall (g1 sortedD) (fCons (fGet2 1 (fVar 5)) fNil)) [.dat dv, .own2 kvs, x, .own (.list ((V ++ [s]).map dS)), .own (.list (L.map dS)), .dat (dS s)] = .nx [.dat dv, .own2 kvs, x, .own (.list ((V ++ [s]).map dS)), .own (.list ((L ++ sKids ds (some s)).map dS)), .dat (dS s)] := by
        unfold gExt
        simp only [List.getElem?_cons_succ, List.getElem?_cons_zero, fCall_e, fCons_e, e3, fNil_e, Rs.ok_bind, g1_e, sorted_kids hl, Rs.of_some, So.of_ok, List.length_map, hfL, if_true, List.set_cons_succ, List.set_cons_zero]
        rw [List.map_append (l₁ := L)]
      unfold Fn.b1_order
      rw [gSeq_e, e1, then_nx, gSeq_e, e2, then_nx, e4]
    unfold whileS
    rw [hc, So.of_ok]
    simp only [if_true, e]
    rw [hz]
    simp
theorem F_order_dfs {ds : List Deed} {R : List Stm} (hl : ds.length ≤ 100000) (h : Dfs ds (sKids ds none) R) (hR : R.length < 2000) : Fn.F_order [.tuple (ds.map dD)] = .ok (.tuple (R.map dS)) := by
  unfold Fn.F_order
  rw [fnD_1 5]
  obtain ⟨kvs, y, h1, hb⟩ := order_l1 (.tuple (ds.map dD)) ds [] [] .no ⟨fun a => rfl, Nat.le_refl _, fun p hp => by simp at hp⟩ (by simpa using hl)
  rw [List.nil_append] at hb
  have e3 : ∀ x, fGet2 1 (fC .none) [.dat (.tuple (ds.map dD)), .own2 kvs, y, .own (.list []), x, .no] = .ok (.list ((kids none ds).map dS)) := fun x => by
    have hn : keyOf (.none : D) = some (kO none) := rfl
    unfold fGet2
    simp only [List.getElem?_cons_succ, List.getElem?_cons_zero, fC_e, Rs.ok_bind, hn, Rs.of_some, hb.look]
  obtain ⟨z, hz⟩ := order_l2 hb hl (.tuple (ds.map dD)) y h [] 2000 .no hR (by simp; omega)
  simp only [Fn.g_order, List.replicate, gSeq_e, gOwn2_e, then_nx, gFor_e, fIt_e, fVar_0, Rs.ok_bind, itemsOf, Rs.of_some, So.of_ok, List.set_cons_succ, List.set_cons_zero, h1, gOwn_e, fLst_e, fNil_e, List.length_nil, fits_of (Nat.zero_le _), need_true, isCont, if_true, fCall_e, fCons_e, e3, g1_e, sorted_kids hl, gWhile_e]
  have hz' := hz
  simp only [List.map_nil] at hz'
  rw [hz']
  simp
theorem F_order {ds : List Deed} (w : Wr ds) (hl : ds.length ≤ 1500) : Fn.F_order [.tuple (ds.map dD)] = .ok (.tuple ((orderOf ds).map dS)) :=
  F_order_dfs (by omega) (dfs_order w) (by have := order_len w; have := letS_le ds; omega)
end Hm
/-! Pu7: the law's own walks: _law_order, _law_same -/
namespace Hm
open PySem PySem.SeqAt L2
theorem laworder_loop (F : List D → Rs D) (dv : D) (a : Option Stm) (G : Stm → List Stm) : ∀ (es : List Deed) (X : List Stm) (x : Sl), (∀ c ∈ kids a es, F [dv, dS c] = .ok (.list ((G c).map dS))) → X.length + ((kids a es).flatMap fun c => c :: G c).length ≤ 1000000 →
    ∃ y, forS (ftN 3) (Fn.b1__law_order F) (es.map dD) [.dat dv, .dat (dO a), .dat (.list (X.map dS)), x] = .nx [.dat dv, .dat (dO a), .dat (.list ((X ++ (kids a es).flatMap fun c => c :: G c).map dS)), y]
  | [], X, x, _, _ => ⟨x, by simp [kids]⟩
  | d :: r, X, x, hF, hl => by
    rw [List.map_cons, forS_cons]
    simp only [ftN_e, List.set_cons_succ, List.set_cons_zero]
    have skip : kids a (d :: r) = kids a r → Fn.b1__law_order F [.dat dv, .dat (dO a), .dat (.list (X.map dS)), .dat (dD d)] = .nx [.dat dv, .dat (dO a), .dat (.list (X.map dS)), .dat (dD d)] →
        ∃ y, turnS (ftN 3) (Fn.b1__law_order F) (r.map dD) (Fn.b1__law_order F [.dat dv, .dat (dO a), .dat (.list (X.map dS)), .dat (dD d)]) = .nx [.dat dv, .dat (dO a), .dat (.list ((X ++ (kids a (d :: r)).flatMap fun c => c :: G c).map dS)), y] := fun hk he => by
      rw [hk] at hF hl ⊢
      obtain ⟨y, hy⟩ := laworder_loop F dv a G r X (.dat (dD d)) hF hl
      exact ⟨y, by rw [he, turnS_nx]; exact hy⟩
    cases d with
    | write s b c =>
      by_cases hb : b = a
      · subst hb
        have hk : kids b (.write s b c :: r) = s :: kids b r := by simp [kids]
        rw [hk] at hF hl ⊢
        simp only [List.flatMap_cons, List.length_append, List.length_cons] at hl
        have hs := hF s List.mem_cons_self
        obtain ⟨y, hy⟩ := laworder_loop F dv b G r (X ++ s :: G s) (.dat (dD (.write s b c))) (fun c' hc' => hF c' (List.mem_cons_of_mem _ hc')) (by rw [List.length_append, List.length_cons]; omega)
        refine ⟨y, ?_⟩
        have f1 : fits (X.length + 1) = true := fits_of (by omega)
        have f2 : fits ((X.length + 1) + (G s).length) = true := fits_of (by omega)
        have f0 : fits 1 = true := rfl
        have e : Fn.b1__law_order F [.dat dv, .dat (dO b), .dat (.list (X.map dS)), .dat (dD (.write s b c))] = .nx [.dat dv, .dat (dO b), .dat (.list ((X ++ s :: G s).map dS)), .dat (dD (.write s b c))] := by
          unfold Fn.b1__law_order
          have hix : ixD (dD (.write s b c)) (.int 2) = some (dO b) := rfl
          rw [gIf_t _ _ _ _ (by simp [eqD_str, Deed.word, hix, eqD_O])]
          have a1 : addD (.list (X.map dS)) (.list [dS s]) = some (.list (X.map dS ++ [dS s])) := addD_l _ _ (by simpa using f1)
          have a2 : addD (.list (X.map dS ++ [dS s])) (.list ((G s).map dS)) = some (.list (X.map dS ++ [dS s] ++ (G s).map dS)) := addD_l _ _ (by simpa using f2)
          simp [f0, a1, a2, hs, Deed.st]
        rw [e, turnS_nx, hy]
        simp
      · refine skip (by simp [kids, hb]) ?_
        have hix : ixD (dD (.write s b c)) (.int 2) = some (dO b) := rfl
        unfold Fn.b1__law_order
        rw [gIf_f _ _ _ _ (by simp [eqD_str, Deed.word, hix, eqD_O, hb])]
        rfl
    | cut s t => exact skip rfl (by simp [Fn.b1__law_order, eqD_str, Deed.word])
    | mark s k f e v => exact skip rfl (by simp [Fn.b1__law_order, eqD_str, Deed.word])
    | off s t => exact skip rfl (by simp [Fn.b1__law_order, eqD_str, Deed.word])
    | on s t => exact skip rfl (by simp [Fn.b1__law_order, eqD_str, Deed.word])
theorem F_laworder {ds : List Deed} (w : Wr ds) (hr : Rise ds) (hl : ds.length ≤ 1000) : ∀ (n : Nat) (a : Option Stm), (above ds a).length < n → Fn.F__law_order n [.tuple (ds.map dD), dO a] = .ok (.list ((dfsF ds n a).map dS))
  | 0, _, h => by omega
  | n + 1, a, h => by
    show fnD 4 [.da, .da] (Fn.g__law_order (Fn.F__law_order n)) [.tuple (ds.map dD), dO a] = _
    rw [fnD_2 2]
    have hk : kids a ds.reverse = (sKids ds a).reverse := by rw [kids_reverse, sKids_rise hr]
    have hlen := dfsF_len w h
    have hlet := letS_le ds
    obtain ⟨y, hy⟩ := laworder_loop (Fn.F__law_order n) (.tuple (ds.map dD)) a (fun c => dfsF ds n (some c)) ds.reverse [] .no (fun c hc => by
      rw [hk] at hc
      have hc' : c ∈ kids a ds := sKids_mem.mp (List.mem_reverse.mp hc)
      have := above_lt w hc'
      exact F_laworder w hr hl n (some c) (by omega)) (by
      rw [hk]
      have e : ((sKids ds a).reverse.flatMap fun c => c :: dfsF ds n (some c)) = dfsF ds (n + 1) a := rfl
      rw [e]
      simp; omega)
    rw [hk] at hy
    have e : ((sKids ds a).reverse.flatMap fun c => c :: dfsF ds n (some c)) = dfsF ds (n + 1) a := rfl
    rw [e] at hy
    have hf0 : fits 0 = true := rfl
    have hrev : revD (.tuple (ds.map dD)) = some (.tuple (ds.reverse.map dD)) := by
      show some (PyData.tuple (ds.map dD).reverse) = _
      rw [List.map_reverse]
    simp only [List.map_nil, List.nil_append] at hy
    simp only [Fn.g__law_order, List.replicate, gSeq_e, gSet_e, fLst_e, fNil_e, Rs.ok_bind, List.length_nil, hf0, need_true, So.of_ok, then_nx, List.set_cons_succ, List.set_cons_zero, gFor_e, fIt_e, fRev_e, fVar_0, hrev, Rs.of_some, itemsOf, hy, gRet_e, fVar_s, fin_rt]
/-! ### _law_same -/
def okT : Nat → D → Bool
  | 0, _ => false
  | _ + 1, .none => true
  | _ + 1, .bool _ => true
  | _ + 1, .int _ => true
  | _ + 1, .str _ => true
  | n + 1, .tuple xs => xs.all (okT n) && decide (xs.length ≤ 100000)
  | _ + 1, .list _ => false
  | _ + 1, .dict _ => false
theorem zipL_self : ∀ xs : List D, zipL xs xs = xs.map fun x => .tuple [x, x]
  | [] => rfl
  | x :: r => by simp [zipL, zipL_self r]
theorem neD_int (i : Int) : neD (.int i) (.int i) = some (.bool false) := by
  unfold neD
  have : PyData.eqv (.int i) (.int i) = true := by show (i == i) = true; simp
  rw [this]
  rfl
theorem blsOf_true : ∀ n : Nat, blsOf (List.replicate n (.bool true)) = some (List.replicate n true)
  | 0 => rfl
  | n + 1 => by
    show (blsOf (List.replicate n (.bool true))).map (true :: ·) = _
    rw [blsOf_true n]; rfl
theorem F_same : ∀ (n : Nat) (d : D), okT n d = true → Fn.F__law_same n [d, d] = .ok (.bool true)
  | 0, d, h => by simp [okT] at h
  | n + 1, d, h => by
    show fnD 4 [.da, .da] (Fn.g__law_same (Fn.F__law_same n)) [d, d] = _
    rw [fnD_2 2]
    cases d with
    | list xs => simp [okT] at h
    | dict xs => simp [okT] at h
    | none => simp [Fn.g__law_same, List.replicate, isiB, isD, isNon]
    | bool b =>
      have hq : eqD (.bool b) (.bool b) = some (.bool true) := by cases b <;> rfl
      have hi : isD (.bool b) .none = some (.bool false) := rfl
      simp [Fn.g__law_same, List.replicate, isiB, hi, hq]
    | int i =>
      have hi : isD (.int i) .none = some (.bool false) := rfl
      simp [Fn.g__law_same, List.replicate, isiB, hi, eqD_int]
    | str x =>
      have hi : isD (.str x) .none = some (.bool false) := rfl
      simp [Fn.g__law_same, List.replicate, isiB, hi, eqD_str]
    | tuple xs =>
      simp only [okT, Bool.and_eq_true, List.all_eq_true, decide_eq_true_eq] at h
      have e1 : ∀ x2 x3, Fn.c1__law_same (Fn.F__law_same n) [.dat (.tuple xs), .dat (.tuple xs), x2, x3] = .ok (.list (xs.map fun _ => .bool true)) := fun x2 x3 => by
        unfold Fn.c1__law_same
        refine fLc_all (fun x => .tuple [x, x]) (fun _ => .bool true) xs (by omega) (by simp [zipD, zipL_self]) fun x hx => ⟨[.dat (.tuple xs), .dat (.tuple xs), .dat x, .dat x], rfl, ?_⟩
        simp [F_same n x (h.1 x hx)]
      have e2 : allD (.list (xs.map fun _ => .bool true)) = some (.bool true) := by
        show (blsOf (xs.map fun _ => .bool true)).map _ = _
        rw [List.map_const', blsOf_true]
        simp
      have e3 : (bOr (bNot (bTr (fIsi Ty5.tuple (fVar 0)))) (bOf (fOp neD (fCall (g1 lenD) (fCons (fVar 0) fNil)) (fCall (g1 lenD) (fCons (fVar 1) fNil))))) [.dat (.tuple xs), .dat (.tuple xs), .no, .no] = .ok false := by
        simp [isiB, neD_int]
      simp [Fn.g__law_same, List.replicate, isiB, e3, e1, e2, neD_int]
theorem okT_mono : ∀ (n : Nat) (d : D), okT n d = true → okT (n + 1) d = true
  | 0, d, h => by simp [okT] at h
  | n + 1, d, h => by
    cases d with
    | tuple xs =>
      simp only [okT, Bool.and_eq_true, List.all_eq_true, decide_eq_true_eq] at h ⊢
      exact ⟨fun x hx => okT_mono n x (h.1 x hx), h.2⟩
    | list xs => simp [okT] at h
    | dict xs => simp [okT] at h
    | _ => simp [okT]
theorem okT_S (n : Nat) (s : Stm) : okT (n + 2) (dS s) = true := by simp [dS, okT]
theorem okT_Ss (n : Nat) (ls : List Stm) (h : ls.length ≤ 100000) : okT (n + 3) (.tuple (ls.map dS)) = true := by
  simp only [okT, Bool.and_eq_true, List.all_eq_true, decide_eq_true_eq]
  refine ⟨fun x hx => ?_, by simpa using h⟩
  obtain ⟨s, _, rfl⟩ := List.mem_map.mp hx
  exact okT_S n s
end Hm
/-! Pu8: dicts by their last write; rows that are closed; what is shown; letters, places -/
namespace Hm
open PySem PySem.SeqAt L2
/-! ### dicts -/
theorem dLook_put {t : Type} (kvs : List (D × t)) (k : D) (v : t) {m : NestedKey} (n : NestedKey) (hk : keyOf k = some m) : dLook (dPut kvs k v) n = if m = n then some v else dLook kvs n := by
  unfold dPut
  rw [hk]
  split
  · rename_i h
    rw [dLook_map_keys _ (fun p => by split <;> rfl)]
    by_cases e : m = n
    · subst e
      rw [if_pos rfl]
      have : (kvs.find? fun p => decide (keyOf p.1 = some m)).isSome = true := by rw [List.isSome_find?]; exact h
      obtain ⟨p, hp⟩ := Option.isSome_iff_exists.mp this
      have hq : keyOf p.1 = some m := by have := List.find?_some hp; simpa using this
      rw [hp]; simp [hq]
    · rw [if_neg e]
      unfold dLook
      cases hp : kvs.find? fun p => decide (keyOf p.1 = some n) with
      | none => rfl
      | some p =>
        have hq : keyOf p.1 = some n := by have := List.find?_some hp; simpa using this
        have : ¬ keyOf p.1 = some m := fun z => e (by rw [hq] at z; exact (Option.some.inj z).symm)
        simp [this]
  · rename_i h
    rw [dLook_append]
    have h1 : dLook [(k, v)] n = if m = n then some v else none := by
      unfold dLook
      rw [List.find?_cons]
      simp only [hk, Option.some.injEq]
      by_cases e : m = n
      · simp [e]
      · simp [e]
    rw [h1]
    by_cases e : m = n
    · subst e
      have : dLook kvs m = none := dLook_none (by unfold dHas; simpa using h)
      rw [this]; simp
    · simp [e]
theorem dPut_len {t : Type} (kvs : List (D × t)) (k : D) (v : t) : (dPut kvs k v).length ≤ kvs.length + 1 := by
  unfold dPut
  split
  · simp
  · simp
theorem look_all {A : Type} (enc q : A → D) (key : A → NestedKey) (hk : ∀ a, keyOf (enc a) = some (key a)) (n : NestedKey) : ∀ (xs : List A) (kvs : List (D × D)), dLook (putAll kvs (xs.map fun a => (enc a, q a))) n = ((xs.reverse.find? fun a => decide (key a = n)).map q).or (dLook kvs n)
  | [], kvs => by simp [putAll]
  | a :: r, kvs => by
    show dLook (putAll (dPut kvs (enc a) (q a)) (r.map fun a => (enc a, q a))) n = _
    rw [look_all enc q key hk n r, dLook_put _ _ _ _ (hk a), List.reverse_cons, List.find?_append]
    cases r.reverse.find? fun a => decide (key a = n) with
    | some b => simp
    | none => by_cases e : key a = n <;> simp [e]
theorem prsOf_map {A : Type} (enc q : A → D) (key : A → NestedKey) (hk : ∀ a, keyOf (enc a) = some (key a)) : ∀ xs : List A, prsOf (xs.map fun a => .tuple [enc a, q a]) = some (xs.map fun a => (enc a, q a))
  | [] => rfl
  | a :: r => by
    show (match prOf (.tuple [enc a, q a]), prsOf (r.map fun a => .tuple [enc a, q a]) with
      | some p, some ps => some (p :: ps)
      | _, _ => none) = _
    rw [prsOf_map enc q key hk r]
    have : prOf (.tuple [enc a, q a]) = some (enc a, q a) := by
      show (keyOf (enc a)).map _ = _
      rw [hk a]; rfl
    rw [this]; rfl
theorem dictD_map {A : Type} (enc q : A → D) (key : A → NestedKey) (hk : ∀ a, keyOf (enc a) = some (key a)) (xs : List A) (hl : xs.length ≤ 16777216) : dictD (.list (xs.map fun a => .tuple [enc a, q a])) = some (.dict (putAll [] (xs.map fun a => (enc a, q a)))) := by
  show (if fits (xs.map fun a => PyData.tuple [enc a, q a]).length = true then (prsOf (xs.map fun a => .tuple [enc a, q a])).map fun ps => PyData.dict (putAll [] ps) else none) = _
  rw [List.length_map, fits_of hl, prsOf_map enc q key hk]
  rfl
/-! ### closed rows -/
def dOS : Option Str → D
  | none => .none
  | some x => .str x
def IsV (k : Str) (v : D) : Prop := (k = "bold" ∧ ∃ b, v = .bool b) ∨ (k = "link" ∧ ∃ o, v = dOS o)
structure Fine (ds : List Deed) : Prop where
  rise : Rise ds
  wr : Wr ds
  cl : ∀ s t c, Deed.write s (some t) c ∈ ds → t ∈ letS ds
  one : ∀ s a c, Deed.write s a c ∈ ds → c.length = 1
  mrk : ∀ s k f e v, Deed.mark s k f e v ∈ ds → f ∈ letS ds ∧ (∀ t, e = some t → t ∈ letS ds) ∧ (e = none → k = "bold") ∧ IsV k v
theorem IsVal.isV {k : Str} {v : D} (h : IsVal k v) : IsV k v := by
  rcases h with ⟨h, b, rfl⟩ | ⟨h, rfl | rfl | rfl | rfl | rfl⟩
  · exact .inl ⟨h, b, rfl⟩
  · exact .inr ⟨h, none, rfl⟩
  · exact .inr ⟨h, some _, rfl⟩
  · exact .inr ⟨h, some _, rfl⟩
  · exact .inr ⟨h, some _, rfl⟩
  · exact .inr ⟨h, some _, rfl⟩
theorem IsLet.len {x : Str} (h : IsLet x) : x.length = 1 := by obtain ⟨c, _, rfl⟩ := h; rfl
theorem Row.fine {ds : List Deed} (h : Row ds) : Fine ds where
  rise := h.rise
  wr := h.wr
  cl := fun s t c hm => by
    obtain ⟨es, h1, h2⟩ := h.nx _ hm
    obtain ⟨a, c', hx⟩ := letS_mem.mp (h2.1 t rfl)
    exact letS_mem.mpr ⟨a, c', (h1 _ hx).1⟩
  one := fun s a c hm => by
    obtain ⟨es, h1, h2⟩ := h.nx _ hm
    exact h2.2.len
  mrk := fun s k f e v hm => by
    obtain ⟨es, h1, h2⟩ := h.nx _ hm
    have up : ∀ t, t ∈ letS es → t ∈ letS ds := fun t ht => by
      obtain ⟨a, c', hx⟩ := letS_mem.mp ht
      exact letS_mem.mpr ⟨a, c', (h1 _ hx).1⟩
    exact ⟨up f h2.1, fun t ht => up t (h2.2.1 t ht), h2.2.2.1, h2.2.2.2.isV⟩
theorem Dfs.closed {ds : List Deed} {L R : List Stm} (h : Dfs ds L R) : (∀ c ∈ L, c ∈ R) ∧ ∀ s ∈ R, ∀ c ∈ kids (some s) ds, c ∈ R := by
  induction h with
  | nil => exact ⟨fun c hc => hc, fun s hs => by simp at hs⟩
  | step _ ih =>
    rename_i L R s _
    obtain ⟨h1, h2⟩ := ih
    refine ⟨fun c hc => ?_, fun t ht c hc => ?_⟩
    · rcases List.mem_append.mp hc with hc | hc
      · exact List.mem_cons_of_mem _ (h1 c (List.mem_append.mpr (.inl hc)))
      · simp at hc; subst hc; exact List.mem_cons_self
    · rcases List.mem_cons.mp ht with rfl | ht
      · exact List.mem_cons_of_mem _ (h1 c (List.mem_append.mpr (.inr (sKids_mem.mpr hc))))
      · exact List.mem_cons_of_mem _ (h2 t ht c hc)
/-- all letters are told -/
theorem order_all {ds : List Deed} (w : Wr ds) (cl : ∀ s t c, Deed.write s (some t) c ∈ ds → t ∈ letS ds) : ∀ s ∈ letS ds, s ∈ orderOf ds := by
  have hd := (dfs_order w).closed
  have main : ∀ (n : Nat) (s : Stm), ((letS ds).filter fun t => ltS t s).length < n → s ∈ letS ds → s ∈ orderOf ds := fun n => by
    induction n with
    | zero => intro s h; omega
    | succ n ih =>
      intro s h hs
      obtain ⟨a, c, hm⟩ := letS_mem.mp hs
      cases a with
      | none => exact hd.1 s (sKids_mem.mpr ((kids_mem none).mpr ⟨c, hm⟩))
      | some t =>
        have ht := cl s t c hm
        have hlt := w.up s t c hm
        have hl := filter_lt (p := fun u => ltS u t) (q := fun u => ltS u s) ht hlt (ltS_irrefl t) fun y _ hy => ltS_trans hy hlt
        exact hd.2 t (ih t (by omega) ht) s ((kids_mem (some t)).mpr ⟨c, hm⟩)
  exact fun s hs => main _ s (Nat.lt_succ_self _) hs
theorem Fine.all {ds : List Deed} (h : Fine ds) : ∀ s ∈ letS ds, s ∈ orderOf ds := order_all h.wr h.cl
theorem Fine.sub {ds : List Deed} (h : Fine ds) : ∀ s ∈ orderOf ds, s ∈ letS ds := order_sub h.wr
theorem Fine.olen {ds : List Deed} (h : Fine ds) : (orderOf ds).length ≤ ds.length := Nat.le_trans (order_len h.wr) (letS_le ds)
/-! ### shown -/
def touch (s : Stm) : Deed → Bool
  | .cut _ t => decide (t = s)
  | .off _ t => decide (t = s)
  | .on _ t => decide (t = s)
  | _ => false
theorem inD_3' (x a b c : Str) : inD (.str x) (.tuple [.str a, .str b, .str c]) = some (.bool (decide (a = x) || (decide (b = x) || decide (c = x)))) := by
  have : inB (.str x) (.tuple [.str a, .str b, .str c]) = some (decide (a = x) || (decide (b = x) || decide (c = x))) := by
    show (if okD 32 (.str x) && [PyData.str a, .str b, .str c].all (okD 32) then some ([PyData.str a, .str b, .str c].any fun y => PyData.eqv y (.str x)) else none) = _
    rw [show (okD 32 (.str x) && [PyData.str a, .str b, .str c].all (okD 32)) = true from rfl]
    simp [eqvS]
  unfold inD
  rw [this]
  rfl
def shownL (ds : List Deed) : List Stm := (orderOf ds).filter (shownB ds)
theorem shown_untouched {ds : List Deed} {s : Stm} (h : ds.any (touch s) = false) : shownB ds s = true := by
  have h' := List.any_eq_false.mp h
  have h1 : ds.filter (isCtl s) = [] := List.filter_eq_nil_iff.mpr fun d hd => by
    have := h' d hd
    cases d <;> simp_all [isCtl, touch]
  have h2 : cutsOf ds s = [] := List.filter_eq_nil_iff.mpr fun d hd => by
    have := h' d hd
    cases d <;> simp_all [isCutOf, touch]
  unfold shownB countsB
  rw [h1, h2]
  rfl
structure Tch (es : List Deed) (kvs : List (D × D)) : Prop where
  has : ∀ s, dHas kvs (kO (some s)) = es.any (touch s)
  len : kvs.length ≤ es.length
theorem Tch.skip {es : List Deed} {kvs : List (D × D)} (h : Tch es kvs) {d : Deed} (hd : ∀ s, touch s d = false) : Tch (es ++ [d]) kvs where
  has := fun s => by rw [h.has, List.any_append]; simp [hd s]
  len := by have := h.len; simp; omega
theorem Tch.add {es : List Deed} {kvs : List (D × D)} (h : Tch es kvs) {d : Deed} (t : Stm) (hd : ∀ s, touch s d = decide (t = s)) (v : D) : Tch (es ++ [d]) (dPut kvs (dS t) v) where
  has := fun s => by
    rw [dHas_look, dLook_put _ _ _ _ (keyOf_S t), List.any_append, List.any_cons, List.any_nil, hd s, ← h.has s, dHas_look]
    by_cases e : t = s
    · subst e; simp
    · have : ¬ kO (some t) = kO (some s) := fun z => e (Option.some.inj (kO_inj z))
      simp [e, this]
  len := by have := h.len; have := dPut_len kvs (dS t) v; simp; omega
theorem shown_loop (dv : D) : ∀ (es pre : List Deed) (kvs : List (D × D)) (x : Sl), Tch pre kvs → pre.length + es.length ≤ 100000 → ∃ kvs' y, forS (ftN 2) Fn.b1_shown (es.map dD) [.dat dv, .own (.dict kvs), x, .no] = .nx [.dat dv, .own (.dict kvs'), y, .no] ∧ Tch (pre ++ es) kvs'
  | [], pre, kvs, x, h, _ => ⟨kvs, x, rfl, by simpa using h⟩
  | d :: r, pre, kvs, x, h, hl => by
    rw [List.map_cons, forS_cons]
    simp only [ftN_e, List.set_cons_succ, List.set_cons_zero]
    have hl' : pre.length + (r.length + 1) ≤ 100000 := by simpa using hl
    have f3 : fits 3 = true := rfl
    have hlen := h.len
    have hfk : fits (kvs.length + 1) = true := fits_of (by omega)
    have skip : (∀ s, touch s d = false) → Fn.b1_shown [.dat dv, .own (.dict kvs), .dat (dD d), .no] = .nx [.dat dv, .own (.dict kvs), .dat (dD d), .no] → ∃ kvs' y, turnS (ftN 2) Fn.b1_shown (r.map dD) (Fn.b1_shown [.dat dv, .own (.dict kvs), .dat (dD d), .no]) = .nx [.dat dv, .own (.dict kvs'), y, .no] ∧ Tch (pre ++ d :: r) kvs' := fun hk he => by
      obtain ⟨kvs', y, h1, h2⟩ := shown_loop dv r (pre ++ [d]) kvs (.dat (dD d)) (h.skip hk) (by simp; omega)
      exact ⟨kvs', y, by rw [he, turnS_nx]; exact h1, by simpa using h2⟩
    have put : ∀ t, (∀ s, touch s d = decide (t = s)) → Fn.b1_shown [.dat dv, .own (.dict kvs), .dat (dD d), .no] = .nx [.dat dv, .own (.dict (dPut kvs (dS t) (.bool true))), .dat (dD d), .no] → ∃ kvs' y, turnS (ftN 2) Fn.b1_shown (r.map dD) (Fn.b1_shown [.dat dv, .own (.dict kvs), .dat (dD d), .no]) = .nx [.dat dv, .own (.dict kvs'), y, .no] ∧ Tch (pre ++ d :: r) kvs' := fun t hk he => by
      obtain ⟨kvs', y, h1, h2⟩ := shown_loop dv r (pre ++ [d]) _ (.dat (dD d)) (h.add t hk (.bool true)) (by simp; omega)
      exact ⟨kvs', y, by rw [he, turnS_nx]; exact h1, by simpa using h2⟩
    cases d with
    | write s a c => exact skip (fun s => rfl) (by simp [Fn.b1_shown, inD_3', f3, Deed.word])
    | mark s k f e v => exact skip (fun s => rfl) (by simp [Fn.b1_shown, inD_3', f3, Deed.word])
    | cut s t => exact put t (fun s => rfl) (by simp [Fn.b1_shown, inD_3', f3, dD, gDput, keyOf_S, hfk])
    | off s t => exact put t (fun s => rfl) (by simp [Fn.b1_shown, inD_3', f3, dD, gDput, keyOf_S, hfk])
    | on s t => exact put t (fun s => rfl) (by simp [Fn.b1_shown, inD_3', f3, dD, gDput, keyOf_S, hfk])
theorem F_shown {ds : List Deed} (w : Wr ds) (hl : ds.length ≤ 1500) : Fn.F_shown [.tuple (ds.map dD)] = .ok (.list ((shownL ds).map dS)) := by
  unfold Fn.F_shown
  rw [fnD_1 3]
  obtain ⟨kvs, y, h1, hT⟩ := shown_loop (.tuple (ds.map dD)) ds [] [] .no ⟨fun s => rfl, Nat.le_refl _⟩ (by simp; omega)
  rw [List.nil_append] at hT
  have ho := F_order w hl
  have hlen := order_len w
  have hlet := letS_le ds
  have e1 : Fn.c1_shown [.dat (.tuple (ds.map dD)), .own (.dict kvs), y, .no] = .ok (.list ((shownL ds).map dS)) := by
    unfold Fn.c1_shown shownL
    refine fLc_map dS (shownB ds) dS (orderOf ds) (by omega) (by simp [ho, itemsOf]) fun s hs => ⟨[.dat (.tuple (ds.map dD)), .own (.dict kvs), y, .dat (dS s)], rfl, ?_, fun _ => rfl⟩
    have hin : notInD (dS s) (.dict kvs) = some (.bool (!ds.any (touch s))) := by
      show ((keyOf (dS s)).map fun n => dHas kvs n).map _ = _
      rw [keyOf_S]
      show some (PyData.bool (!dHas kvs (kO (some s)))) = _
      rw [hT.has]
    cases hc : ds.any (touch s) with
    | false => simp [hin, hc, shown_untouched hc]
    | true => simp [hin, hc, F_isshown ds s (by omega)]
  simp only [Fn.g_shown, List.replicate, gSeq_e, gOwn_e, fC_e, So.of_ok, isCont, if_true, then_nx, List.set_cons_succ, List.set_cons_zero, gFor_e, fIt_e, fVar_0, Rs.ok_bind, itemsOf, Rs.of_some, h1, gRet_e, e1, fin_rt]
theorem shownL_sub {ds : List Deed} : ∀ s ∈ shownL ds, s ∈ orderOf ds := fun s hs => (List.mem_filter.mp hs).1
theorem shownL_len {ds : List Deed} : (shownL ds).length ≤ (orderOf ds).length := List.length_filter_le _ _
/-! ### letters -/
def isWr : Deed → Bool
  | .write _ _ _ => true
  | _ => false
def chr : Deed → Str
  | .write _ _ c => c
  | _ => ""
def letOf (ds : List Deed) (s : Stm) : Str := match ds.find? fun d => isWr d && decide (d.st = s) with
  | some d => chr d
  | none => ""
theorem letOf_eq {ds : List Deed} (h : (letS ds).Nodup) {s : Stm} {a : Option Stm} {c : Str} (hm : Deed.write s a c ∈ ds) : letOf ds s = c := by
  unfold letOf
  cases hf : ds.find? fun d => isWr d && decide (d.st = s) with
  | none =>
    have := List.find?_eq_none.mp hf _ hm
    simp [isWr, Deed.st] at this
  | some d =>
    have h1 := List.find?_some hf
    have h2 := List.mem_of_find?_eq_some hf
    cases d with
    | write s' a' c' =>
      simp only [isWr, Deed.st, Bool.true_and] at h1
      have h1 := of_decide_eq_true h1
      subst h1
      exact (one_write h h2 hm).2
    | _ => simp [isWr] at h1
def lettersD (ds : List Deed) : List (D × D) := putAll [] ((ds.filter isWr).map fun d => (dS d.st, .str (chr d)))
theorem look_letter {ds : List Deed} (h : (letS ds).Nodup) {s : Stm} (hs : s ∈ letS ds) : dLook (lettersD ds) (kO (some s)) = some (.str (letOf ds s)) := by
  obtain ⟨a, c, hm⟩ := letS_mem.mp hs
  unfold lettersD
  rw [look_all (fun d : Deed => dS d.st) (fun d => .str (chr d)) (fun d => kO (some d.st)) (fun d => keyOf_S d.st)]
  cases hf : (ds.filter isWr).reverse.find? fun d => decide (kO (some d.st) = kO (some s)) with
  | none =>
    have := List.find?_eq_none.mp hf (.write s a c) (by simp [isWr, hm])
    simp [Deed.st] at this
  | some d =>
    have h1 := List.find?_some hf
    have h2 := List.mem_of_find?_eq_some hf
    rw [List.mem_reverse, List.mem_filter] at h2
    simp only [decide_eq_true_eq] at h1
    have h3 := Option.some.inj (kO_inj h1)
    cases d with
    | write s' a' c' =>
      simp only [Deed.st] at h3
      subst h3
      rw [letOf_eq h h2.1]
      rfl
    | _ => simp [isWr] at h2
theorem ixD_dict (kvs : List (D × D)) (s : Stm) : ixD (.dict kvs) (dS s) = dLook kvs (kO (some s)) := rfl
theorem ix_letter {ds : List Deed} (h : (letS ds).Nodup) {s : Stm} (hs : s ∈ letS ds) : ixD (.dict (lettersD ds)) (dS s) = some (.str (letOf ds s)) := by rw [ixD_dict, look_letter h hs]
theorem filter_len {t : Type} (p : t → Bool) (l : List t) : (l.filter p).length ≤ l.length := List.length_filter_le _ _
theorem F_letters (ds : List Deed) (hl : ds.length ≤ 100000) : Fn.F_letters_of [.tuple (ds.map dD)] = .ok (.dict (lettersD ds)) := by
  unfold Fn.F_letters_of
  rw [fnD_1 1]
  have f2 : fits 2 = true := rfl
  have e1 : Fn.c1_letters_of [.dat (.tuple (ds.map dD)), .no] = .ok (.list ((ds.filter isWr).map fun d => .tuple [dS d.st, .str (chr d)])) := by
    unfold Fn.c1_letters_of
    refine fLc_map dD isWr (fun d => .tuple [dS d.st, .str (chr d)]) ds (by omega) (by simp [itemsOf]) fun d hd => ⟨_, rfl, ?_, fun hp => ?_⟩
    · cases d <;> simp [wipeS, eqD_str, isWr, Deed.word]
    · cases d with
      | write s a c => simp [wipeS, dD, f2, Deed.st, chr]
      | _ => cases hp
  have e2 := dictD_map (fun d : Deed => dS d.st) (fun d => .str (chr d)) (fun d => kO (some d.st)) (fun d => keyOf_S d.st) (ds.filter isWr) (by have := filter_len isWr ds; omega)
  simp [Fn.g_letters_of, List.replicate, e1, e2, lettersD]
/-! ### texts -/
def catS (ys : List Str) : Str := ⟨(ys.flatMap fun y => y.cps.toList).toArray⟩
theorem str_ext {a b : Str} (h : a.cps.toList = b.cps.toList) : a = b := by
  obtain ⟨x⟩ := a
  obtain ⟨y⟩ := b
  congr 1
  exact Array.ext' h
theorem app_cps (a b : Str) : (a ++ b).cps.toList = a.cps.toList ++ b.cps.toList := by
  show (a.cps ++ b.cps).toList = _
  simp
theorem sjoin_empty : ∀ ys : List Str, Str.join "" ys = catS ys
  | [] => rfl
  | [x] => str_ext (by simp [Str.join, catS])
  | x :: y :: r => by
    show x ++ ("" : Str) ++ Str.join "" (y :: r) = _
    rw [sjoin_empty (y :: r)]
    refine str_ext ?_
    rw [app_cps, app_cps]
    have : (("" : Str)).cps.toList = [] := by decide +kernel
    rw [this]
    simp [catS]
theorem join_empty (ys : List Str) : Txt.join "" ys = catS ys := by
  unfold Txt.join
  rw [StrLaws.glued_eq_join, sjoin_empty]
theorem strsOf_map : ∀ ys : List Str, strsOf (ys.map PyData.str) = some ys
  | [] => rfl
  | y :: r => by
    show (strsOf (r.map PyData.str)).map (y :: ·) = _
    rw [strsOf_map r]; rfl
theorem len_cps (x : Str) : x.length = x.cps.toList.length := by simp [Str.length]
theorem catS_len (ys : List Str) : (catS ys).length = (ys.map (·.length)).sum := by
  rw [len_cps]
  induction ys with
  | nil => rfl
  | cons y r ih =>
    have h : (catS (y :: r)).cps.toList = y.cps.toList ++ (catS r).cps.toList := by simp [catS]
    rw [h, List.length_append, ih, List.map_cons, List.sum_cons, len_cps]
theorem joinD_empty (ys : List Str) (h : (ys.map (·.length)).sum ≤ 16777216) : joinD (.str "") (.list (ys.map PyData.str)) = some (.str (catS ys)) := by
  show ((strsOf (ys.map PyData.str)).bind fun ys => if joinOk "" ys = true then some (PyData.str (Txt.join "" ys)) else none) = _
  rw [strsOf_map, Option.bind_some]
  have : joinOk "" ys = true := by
    refine decide_eq_true ?_
    have h0 : (("" : Str)).length = 0 := by decide +kernel
    rw [h0, Nat.mul_zero]
    exact h
  rw [if_pos this, join_empty]
theorem sum_ones : ∀ (ys : List Str), (∀ y ∈ ys, y.length = 1) → (ys.map (·.length)).sum = ys.length
  | [], _ => rfl
  | y :: r, h => by
    rw [List.map_cons, List.sum_cons, h y List.mem_cons_self, sum_ones r fun z hz => h z (List.mem_cons_of_mem _ hz), List.length_cons]
    omega
def textOf (ds : List Deed) : Str := catS ((shownL ds).map (letOf ds))
theorem Fine.let1 {ds : List Deed} (h : Fine ds) {s : Stm} (hs : s ∈ letS ds) : (letOf ds s).length = 1 := by
  obtain ⟨a, c, hm⟩ := letS_mem.mp hs
  rw [letOf_eq h.wr.nd hm]
  exact h.one s a c hm
theorem Fine.shown_let {ds : List Deed} (h : Fine ds) : ∀ s ∈ shownL ds, s ∈ letS ds := fun s hs => h.sub s (shownL_sub s hs)
theorem Fine.ones {ds : List Deed} (h : Fine ds) : ∀ y ∈ (shownL ds).map (letOf ds), y.length = 1 := fun y hy => by
  obtain ⟨s, hs, rfl⟩ := List.mem_map.mp hy
  exact h.let1 (h.shown_let s hs)
theorem F_text {ds : List Deed} (h : Fine ds) (hl : ds.length ≤ 1500) : Fn.F_text [.tuple (ds.map dD)] = .ok (.str (textOf ds)) := by
  unfold Fn.F_text
  rw [fnD_1 2]
  have hol := h.olen
  have hsl := shownL_len (ds := ds)
  have hs := F_shown h.wr hl
  have e1 : Fn.c1_text [.dat (.tuple (ds.map dD)), .dat (.dict (lettersD ds)), .no] = .ok (.list (((shownL ds).map (letOf ds)).map PyData.str)) := by
    unfold Fn.c1_text
    rw [List.map_map]
    refine fLc_all dS (PyData.str ∘ letOf ds) (shownL ds) (by omega) (by simp [hs, itemsOf]) fun s hs => ⟨_, rfl, ?_⟩
    simp [wipeS, ix_letter h.wr.nd (h.shown_let s hs)]
  have e2 := joinD_empty ((shownL ds).map (letOf ds)) (by rw [sum_ones _ h.ones]; simp; omega)
  simp only [Fn.g_text, List.replicate, gSeq_e, gSet_e, fCallF_e, fCons_e, fVar_0, fNil_e, Rs.ok_bind, F_letters ds (by omega), noX_ok_e, So.of_ok, then_nx, List.set_cons_succ, List.set_cons_zero, gRet_e, fOp_e, fStr, fC_e, strOf, Rs.of_some, e1, e2, fin_rt]
  rfl
/-! ### places -/
theorem enumL_map {A : Type} (enc : A → D) : ∀ (xs : List A) (k : Nat), enumL (k : Int) (xs.map enc) = (xs.zipIdx k).map fun p => .tuple [.int (p.2 : Nat), enc p.1]
  | [], k => rfl
  | x :: r, k => by
    rw [List.map_cons, List.zipIdx_cons, List.map_cons]
    show PyData.tuple [.int (k : Int), enc x] :: enumL ((k : Int) + 1) (r.map enc) = _
    have := enumL_map enc r (k + 1)
    rw [show ((k + 1 : Nat) : Int) = (k : Int) + 1 by omega] at this
    rw [this]
def placesD (row : List Stm) : List (D × D) := putAll [] (row.zipIdx.map fun p => (dS p.1, .int (p.2 : Nat)))
theorem look_place {row : List Stm} (hn : row.Nodup) {s : Stm} (hs : s ∈ row) : dLook (placesD row) (kO (some s)) = some (.int (row.idxOf s : Nat)) := by
  unfold placesD
  rw [look_all (fun p : Stm × Nat => dS p.1) (fun p => .int (p.2 : Nat)) (fun p => kO (some p.1)) (fun p => keyOf_S p.1)]
  have hlt : row.idxOf s < row.length := List.idxOf_lt_length_of_mem hs
  have hat : row[row.idxOf s]? = some s := by rw [List.getElem?_eq_getElem hlt, List.getElem_idxOf hlt]
  cases hf : row.zipIdx.reverse.find? fun p => decide (kO (some p.1) = kO (some s)) with
  | none =>
    have hm : (s, row.idxOf s) ∈ row.zipIdx := List.mem_zipIdx_iff_getElem?.mpr hat
    have := List.find?_eq_none.mp hf _ (List.mem_reverse.mpr hm)
    simp at this
  | some p =>
    have h1 := List.find?_some hf
    have h2 := List.mem_of_find?_eq_some hf
    rw [List.mem_reverse] at h2
    simp only [decide_eq_true_eq] at h1
    have h3 := Option.some.inj (kO_inj h1)
    have h4 := List.mem_zipIdx_iff_getElem?.mp h2
    rw [h3] at h4
    have h5 : p.2 = row.idxOf s := (List.getElem?_inj (List.getElem?_eq_some_iff.mp h4).1 hn).mp (h4.trans hat.symm)
    simp [h5]
theorem F_places {ds : List Deed} (w : Wr ds) (hl : ds.length ≤ 1500) : Fn.F_places_of [.tuple (ds.map dD)] = .ok (.dict (placesD (orderOf ds))) := by
  unfold Fn.F_places_of
  rw [fnD_1 2]
  have ho := F_order w hl
  have hlen := order_len w
  have hlet := letS_le ds
  have f2 : fits 2 = true := rfl
  have e0 : enumD (.tuple ((orderOf ds).map dS)) = some ((orderOf ds).zipIdx.map fun p => .tuple [.int (p.2 : Nat), dS p.1]) := by
    show some (enumL 0 ((orderOf ds).map dS)) = _
    rw [← enumL_map dS (orderOf ds) 0]
    rfl
  have e1 : Fn.c1_places_of [.dat (.tuple (ds.map dD)), .no, .no] = .ok (.list ((orderOf ds).zipIdx.map fun p => .tuple [dS p.1, .int (p.2 : Nat)])) := by
    unfold Fn.c1_places_of
    refine fLc_all (fun p : Stm × Nat => .tuple [.int (p.2 : Nat), dS p.1]) (fun p => .tuple [dS p.1, .int (p.2 : Nat)]) (orderOf ds).zipIdx (by simp; omega) (by simp [fEnum, ho, e0]) fun p hp => ⟨[.dat (.tuple (ds.map dD)), .dat (.int (p.2 : Nat)), .dat (dS p.1)], rfl, ?_⟩
    simp [f2]
  have e2 := dictD_map (fun p : Stm × Nat => dS p.1) (fun p => .int (p.2 : Nat)) (fun p => kO (some p.1)) (fun p => keyOf_S p.1) (orderOf ds).zipIdx (by simp; omega)
  simp [Fn.g_places_of, List.replicate, e1, e2, placesD]
end Hm
/-! Pu9: covers, tellers, values, spans -/
namespace Hm
open PySem PySem.SeqAt L2
theorem fnD_3 (n : Nat) (g : Fs) (a b c : D) : fnD (n + 3) [.da, .da, .da] g [a, b, c] = So.fin (g (.dat a :: .dat b :: .dat c :: List.replicate n .no)) := rfl
theorem fnD_4 (n : Nat) (g : Fs) (a b c d : D) : fnD (n + 4) [.da, .da, .da, .da] g [a, b, c, d] = So.fin (g (.dat a :: .dat b :: .dat c :: .dat d :: List.replicate n .no)) := rfl
/-- whether the stretch of a mark has the letter s -/
def covB (row : List Stm) (s : Stm) : Deed → Bool
  | .mark _ k f e _ => !(decide (row.idxOf s < row.idxOf f)) && (match e with
    | none => true
    | some t => if k = "link" then decide (row.idxOf s ≤ row.idxOf t) else decide (row.idxOf s < row.idxOf t))
  | _ => false
def isMk (k : Str) : Deed → Bool
  | .mark _ k' _ _ _ => decide (k' = k)
  | _ => false
def isMark : Deed → Bool
  | .mark _ _ _ _ _ => true
  | _ => false
/-- a mark whose letters are told -/
def MkOk (row : List Stm) : Deed → Prop
  | .mark _ k f e v => f ∈ row ∧ (∀ t, e = some t → t ∈ row) ∧ (e = none → k = "bold") ∧ IsV k v
  | _ => False
theorem Fine.mkOk {ds : List Deed} (h : Fine ds) {d : Deed} (hd : d ∈ ds) (hm : isMark d = true) : MkOk (orderOf ds) d := by
  cases d with
  | mark s k f e v =>
    obtain ⟨h1, h2, h3, h4⟩ := h.mrk s k f e v hd
    exact ⟨h.all f h1, fun t ht => h.all t (h2 t ht), h3, h4⟩
  | _ => cases hm
theorem isMk_mark {k : Str} {d : Deed} (h : isMk k d = true) : isMark d = true := by cases d <;> first | rfl | cases h
theorem sl_mark (s : Stm) (k : Str) (f : Stm) (e : Option Stm) (v : D) : slD (dD (.mark s k f e v)) (some 2) (some 5) = some (.tuple [.str k, dS f, dO e]) := rfl
theorem isD_O (e : Option Stm) : isD (dO e) .none = some (.bool (decide (e = none))) := by cases e <;> rfl
theorem isD_S (s : Stm) : isD (dS s) .none = some (.bool false) := rfl
theorem F_covered {row : List Stm} (hn : row.Nodup) {s : Stm} (hs : s ∈ row) {d : Deed} (hd : MkOk row d) : Fn.F_is_covered [.dict (placesD row), dD d, dS s] = .ok (.bool (covB row s d)) := by
  cases d with
  | mark t k f e v =>
    obtain ⟨hf, he, hk, hv⟩ := hd
    unfold Fn.F_is_covered
    rw [fnD_3 3]
    have p1 : ixD (.dict (placesD row)) (dS s) = some (.int (row.idxOf s : Nat)) := by rw [ixD_dict, look_place hn hs]
    have p2 : ixD (.dict (placesD row)) (dS f) = some (.int (row.idxOf f : Nat)) := by rw [ixD_dict, look_place hn hf]
    have st : ∀ δ : Dl, gTupS [3, 4, 5] (fSl (fVar 1) (foSome (fC (.int 2))) (foSome (fC (.int 5)))) [.dat (.dict (placesD row)), .dat (dD (.mark t k f e v)), .dat (dS s), .no, .no, .no] = .nx [.dat (.dict (placesD row)), .dat (dD (.mark t k f e v)), .dat (dS s), .dat (.str k), .dat (dS f), .dat (dO e)] := fun δ => by
      unfold gTupS
      simp [sl_mark, ftT, setAll]
    simp only [Fn.g_is_covered, List.replicate, gSeq_e, st [], then_nx]
    by_cases h1 : row.idxOf s < row.idxOf f
    · have h1' : ((row.idxOf s : Nat) : Int) < (row.idxOf f : Nat) := by omega
      simp [p1, p2, h1, covB]
    · have h1' : ¬ ((row.idxOf s : Nat) : Int) < (row.idxOf f : Nat) := by omega
      cases e with
      | none =>
        have hkb := hk rfl
        subst hkb
        simp [p1, p2, h1, covB, eqD_str, dO, isD, isNon]
      | some u =>
        have p3 : ixD (.dict (placesD row)) (dS u) = some (.int (row.idxOf u : Nat)) := by rw [ixD_dict, look_place hn (he u rfl)]
        by_cases hkl : k = "link"
        · subst hkl
          simp [p1, p2, p3, h1, covB, eqD_str, dO, leD]
        · simp [p1, p2, p3, h1, covB, eqD_str, dO, hkl, isD_S]
  | _ => exact hd.elim
/-! ### marks -/
def marksL (ds : List Deed) (k : Str) : List Deed := (ds.filter (isMk k)).reverse
theorem marksL_mem {ds : List Deed} {k : Str} {d : Deed} : d ∈ marksL ds k ↔ d ∈ ds ∧ isMk k d = true := by unfold marksL; rw [List.mem_reverse, List.mem_filter]
theorem marksL_len (ds : List Deed) (k : Str) : (marksL ds k).length ≤ ds.length := by unfold marksL; rw [List.length_reverse]; exact filter_len _ _
theorem F_marks (ds : List Deed) (k : Str) (hl : ds.length ≤ 100000) : Fn.F_marks_of [.tuple (ds.map dD), .str k] = .ok (.list ((marksL ds k).map dD)) := by
  unfold Fn.F_marks_of
  rw [fnD_2 1]
  have e1 : Fn.c1_marks_of [.dat (.tuple (ds.map dD)), .dat (.str k), .no] = .ok (.list ((ds.filter (isMk k)).map dD)) := by
    unfold Fn.c1_marks_of
    refine fLc_map dD (isMk k) dD ds (by omega) (by simp [itemsOf]) fun d hd => ⟨_, rfl, ?_, fun _ => by simp [wipeS]⟩
    cases d with
    | mark s k' f e v => simp [wipeS, isMk, dD, eqD_str]
    | _ => simp [wipeS, eqD_str, Deed.word, isMk]
  have e2 : revD (.list ((ds.filter (isMk k)).map dD)) = some (.list ((marksL ds k).map dD)) := by
    show some (PyData.list ((ds.filter (isMk k)).map dD).reverse) = _
    rw [← List.map_reverse]; rfl
  simp [Fn.g_marks_of, List.replicate, e1, e2]
def cmarks (ds : List Deed) (k : Str) : List Deed := (marksL ds k).filter fun d => countsB ds d.st
theorem cmarks_mem {ds : List Deed} {k : Str} {d : Deed} : d ∈ cmarks ds k ↔ (d ∈ ds ∧ isMk k d = true) ∧ countsB ds d.st = true := by unfold cmarks; rw [List.mem_filter, marksL_mem]
theorem cmarks_len (ds : List Deed) (k : Str) : (cmarks ds k).length ≤ ds.length := Nat.le_trans (filter_len _ _) (marksL_len ds k)
theorem F_cmarks (ds : List Deed) (k : Str) (hl : ds.length ≤ 100000) : Fn.F_counting_marks [.tuple (ds.map dD), .str k] = .ok (.list ((cmarks ds k).map dD)) := by
  unfold Fn.F_counting_marks
  rw [fnD_2 1]
  have hml := marksL_len ds k
  have e1 : Fn.c1_counting_marks [.dat (.tuple (ds.map dD)), .dat (.str k), .no] = .ok (.list ((cmarks ds k).map dD)) := by
    unfold Fn.c1_counting_marks cmarks
    refine fLc_map dD (fun d => countsB ds d.st) dD (marksL ds k) (by omega) (by simp [F_marks ds k hl, itemsOf]) fun d hd => ⟨_, rfl, ?_, fun _ => by simp [wipeS]⟩
    simp [wipeS, F_counts ds d.st hl]
  simp [Fn.g_counting_marks, List.replicate, e1]
def dOD : Option Deed → D
  | none => .none
  | some d => dD d
theorem isD_D (d : Deed) : isD (dD d) .none = some (.bool false) := by cases d <;> rfl
theorem first_loop {row : List Stm} (hn : row.Nodup) {s : Stm} (hs : s ∈ row) (mv : D) : ∀ (ms : List Deed) (x : Sl), (∀ d ∈ ms, MkOk row d) →
    (∃ y, forS (ftN 3) Fn.b1_first_telling (ms.map dD) [.dat (.dict (placesD row)), .dat mv, .dat (dS s), x] = .nx [.dat (.dict (placesD row)), .dat mv, .dat (dS s), y] ∧ ms.find? (covB row s) = none) ∨
    ∃ d δ, forS (ftN 3) Fn.b1_first_telling (ms.map dD) [.dat (.dict (placesD row)), .dat mv, .dat (dS s), x] = .rt (dD d) δ ∧ ms.find? (covB row s) = some d
  | [], x, _ => .inl ⟨x, rfl, rfl⟩
  | d :: r, x, h => by
    rw [List.map_cons, forS_cons]
    simp only [ftN_e, List.set_cons_succ, List.set_cons_zero]
    have hc := F_covered hn hs (h d List.mem_cons_self)
    cases hb : covB row s d with
    | true =>
      right
      refine ⟨d, [.dat (.dict (placesD row)), .dat mv, .dat (dS s), .dat (dD d)], ?_, by simp [List.find?_cons, hb]⟩
      simp [Fn.b1_first_telling, hc, hb]
    | false =>
      have e : Fn.b1_first_telling [.dat (.dict (placesD row)), .dat mv, .dat (dS s), .dat (dD d)] = .nx [.dat (.dict (placesD row)), .dat mv, .dat (dS s), .dat (dD d)] := by
        simp [Fn.b1_first_telling, hc, hb]
      rw [e, turnS_nx, List.find?_cons, hb]
      exact first_loop hn hs mv r _ fun q hq => h q (List.mem_cons_of_mem _ hq)
theorem F_first {row : List Stm} (hn : row.Nodup) {s : Stm} (hs : s ∈ row) (ms : List Deed) (h : ∀ d ∈ ms, MkOk row d) : Fn.F_first_telling [.dict (placesD row), .list (ms.map dD), dS s] = .ok (dOD (ms.find? (covB row s))) := by
  unfold Fn.F_first_telling
  rw [fnD_3 1]
  rcases first_loop hn hs (.list (ms.map dD)) ms .no h with ⟨y, h1, h2⟩ | ⟨d, δ, h1, h2⟩
  · simp [Fn.g_first_telling, List.replicate, itemsOf, h1, h2, dOD]
  · simp [Fn.g_first_telling, List.replicate, itemsOf, h1, h2, dOD]
/-- the mark that tells -/
def tellOf (ds : List Deed) (k : Str) (s : Stm) : Option Deed := (cmarks ds k).find? (covB (orderOf ds) s)
theorem tell_in {ds : List Deed} {k : Str} {s : Stm} {d : Deed} (h : tellOf ds k s = some d) : d ∈ ds ∧ isMk k d = true ∧ countsB ds d.st = true ∧ covB (orderOf ds) s d = true := by
  have h1 := cmarks_mem.mp (List.mem_of_find?_eq_some h)
  exact ⟨h1.1.1, h1.1.2, h1.2, List.find?_some h⟩
theorem Fine.cm {ds : List Deed} (h : Fine ds) (k : Str) : ∀ d ∈ cmarks ds k, MkOk (orderOf ds) d := fun d hd => by
  have := cmarks_mem.mp hd
  exact h.mkOk this.1.1 (isMk_mark this.1.2)
theorem F_firstOf {ds : List Deed} (h : Fine ds) {s : Stm} (hs : s ∈ letS ds) (k : Str) : Fn.F_first_telling [.dict (placesD (orderOf ds)), .list ((cmarks ds k).map dD), dS s] = .ok (dOD (tellOf ds k s)) :=
  F_first (order_nodup h.wr) (h.all s hs) (cmarks ds k) (h.cm k)
def dOS' (o : Option Deed) : D := dO (o.map Deed.st)
theorem F_teller {ds : List Deed} (h : Fine ds) (hl : ds.length ≤ 1500) {s : Stm} (hs : s ∈ letS ds) (k : Str) : Fn.F_teller [.tuple (ds.map dD), dS s, .str k] = .ok (dO ((tellOf ds k s).map Deed.st)) := by
  unfold Fn.F_teller
  rw [fnD_3 1]
  have e0 : gSet 3 (fCallF Fn.F_first_telling (fCons (fCallF Fn.F_places_of (fCons (fVar 0) fNil)) (fCons (fCallF Fn.F_counting_marks (fCons (fVar 0) (fCons (fVar 2) fNil))) (fCons (fVar 1) fNil)))) [.dat (.tuple (ds.map dD)), .dat (dS s), .dat (.str k), .no] = .nx [.dat (.tuple (ds.map dD)), .dat (dS s), .dat (.str k), .dat (dOD (tellOf ds k s))] := by
    simp [F_places h.wr hl, F_cmarks ds k (by omega), F_firstOf h hs]
  simp only [Fn.g_teller, List.replicate, gSeq_e, e0, then_nx]
  cases tellOf ds k s with
  | none => simp [dOD, isD, isNon, dO]
  | some d => simp [dOD, isD_D, dO]
def bare (k : Str) : D := if k = "bold" then .bool false else .none
def valD : Option Deed → Str → D
  | some (.mark _ _ _ _ v), _ => v
  | _, k => bare k
theorem keyOf_str (x : Str) : keyOf (.str x) = some (.text x) := rfl
theorem look_bare (k : Str) (h : k = "bold" ∨ k = "link") : dLook [((.str "bold" : D), (.bool false : D)), (.str "link", .none)] (.text k) = some (bare k) := by
  have h1 : keyOf (.str "bold") = some (.text "bold") := rfl
  have h2 : keyOf (.str "link") = some (.text "link") := rfl
  rcases h with rfl | rfl
  · simp [dLook, h1, bare]
  · simp [dLook, h1, h2, bare, List.find?_cons]
theorem ixD_5 (s : Stm) (k : Str) (f : Stm) (e : Option Stm) (v : D) : ixD (dD (.mark s k f e v)) (.int 5) = some v := by simp [dD]
theorem F_value {ds : List Deed} (h : Fine ds) (hl : ds.length ≤ 1500) {s : Stm} (hs : s ∈ letS ds) (k : Str) (hk : k = "bold" ∨ k = "link") : Fn.F_value [.tuple (ds.map dD), dS s, .str k] = .ok (valD (tellOf ds k s) k) := by
  unfold Fn.F_value
  rw [fnD_3 1]
  have e0 : gSet 3 (fCallF Fn.F_first_telling (fCons (fCallF Fn.F_places_of (fCons (fVar 0) fNil)) (fCons (fCallF Fn.F_counting_marks (fCons (fVar 0) (fCons (fVar 2) fNil))) (fCons (fVar 1) fNil)))) [.dat (.tuple (ds.map dD)), .dat (dS s), .dat (.str k), .no] = .nx [.dat (.tuple (ds.map dD)), .dat (dS s), .dat (.str k), .dat (dOD (tellOf ds k s))] := by
    simp [F_places h.wr hl, F_cmarks ds k (by omega), F_firstOf h hs]
  simp only [Fn.g_value, List.replicate, gSeq_e, e0, then_nx]
  cases ht : tellOf ds k s with
  | none => simp [dOD, isD, isNon, fKix, keyOf_str, look_bare k hk, valD]
  | some d =>
    have := tell_in ht
    cases d with
    | mark s k f e v => simp [dOD, isD_D, ixD_5, valD]
    | _ => cases this.2.1
theorem F_covers {ds : List Deed} (h : Fine ds) (hl : ds.length ≤ 1500) {d : Deed} (hd : d ∈ ds) (hm : isMark d = true) {s : Stm} (hs : s ∈ letS ds) : Fn.F_covers [.tuple (ds.map dD), dS d.st, dS s] = .ok (.bool (covB (orderOf ds) s d)) := by
  unfold Fn.F_covers
  rw [fnD_3 2]
  have e1 : Fn.c1_covers [.dat (.tuple (ds.map dD)), .dat (dS d.st), .dat (dS s), .no, .no] = .ok (.list ((ds.filter fun e => decide (e.st = d.st)).map dD)) := by
    unfold Fn.c1_covers
    refine fLc_map dD (fun e => decide (e.st = d.st)) dD ds (by omega) (by simp [itemsOf]) fun e he => ⟨_, rfl, ?_, fun _ => by simp [wipeS]⟩
    simp [wipeS, eqD_S]
  have e2 : ∃ r, ds.filter (fun e => decide (e.st = d.st)) = d :: r := by
    have hf : d ∈ ds.filter (fun e => decide (e.st = d.st)) := List.mem_filter.mpr ⟨hd, by simp⟩
    have hp : (ds.filter (fun e => decide (e.st = d.st))).Pairwise fun a b => ltS a.st b.st = true := List.Pairwise.filter _ h.rise
    have hall : ∀ e ∈ ds.filter (fun e => decide (e.st = d.st)), e.st = d.st := fun e he => by simpa using (List.mem_filter.mp he).2
    cases hq : ds.filter (fun e => decide (e.st = d.st)) with
    | nil => rw [hq] at hf; simp at hf
    | cons x r =>
      rw [hq] at hf hp hall
      rcases List.mem_cons.mp hf with rfl | hr
      · exact ⟨r, rfl⟩
      · have := List.rel_of_pairwise_cons hp hr
        rw [hall x List.mem_cons_self, ltS_irrefl] at this
        cases this
  obtain ⟨r, e2⟩ := e2
  rw [e2] at e1
  simp [Fn.g_covers, List.replicate, e1, F_places h.wr hl, F_covered (order_nodup h.wr) (h.all s hs) (h.mkOk hd hm)]
/-! ### spans -/
abbrev Spn := Str × Bool × Option Str
def dSp (x : Spn) : D := .tuple [.str x.1, .bool x.2.1, dOS x.2.2]
def boldOf : Option Deed → Bool
  | some (.mark _ _ _ _ (.bool b)) => b
  | _ => false
def linkOf : Option Deed → Option Str
  | some (.mark _ _ _ _ (.str x)) => some x
  | _ => none
def addS (acc : List Spn) (x : Spn) : List Spn := match acc.getLast? with
  | some l => if l.2 = x.2 then acc.dropLast ++ [(l.1 ++ x.1, x.2)] else acc ++ [x]
  | none => [x]
def spansF (l : List Spn) : List Spn := l.foldl addS []
def atOf (ds : List Deed) (s : Stm) : Spn := (letOf ds s, boldOf (tellOf ds "bold" s), linkOf (tellOf ds "link" s))
def flatOf (ds : List Deed) : List Spn := (shownL ds).map (atOf ds)
def spansOf (ds : List Deed) : List Spn := spansF (flatOf ds)
theorem val_bold {ds : List Deed} (h : Fine ds) (s : Stm) : valD (tellOf ds "bold" s) "bold" = .bool (boldOf (tellOf ds "bold" s)) := by
  cases ht : tellOf ds "bold" s with
  | none => rfl
  | some d =>
    obtain ⟨h1, h2, _, _⟩ := tell_in ht
    cases d with
    | mark s k f e v =>
      have hk : k = "bold" := by simpa [isMk] using h2
      rcases (h.mrk s k f e v h1).2.2.2 with ⟨_, b, rfl⟩ | ⟨h3, _⟩
      · rfl
      · rw [hk] at h3; simp at h3
    | _ => cases h2
theorem val_link {ds : List Deed} (h : Fine ds) (s : Stm) : valD (tellOf ds "link" s) "link" = dOS (linkOf (tellOf ds "link" s)) := by
  cases ht : tellOf ds "link" s with
  | none => simp [valD, bare, linkOf, dOS]
  | some d =>
    obtain ⟨h1, h2, _, _⟩ := tell_in ht
    cases d with
    | mark s k f e v =>
      have hk : k = "link" := by simpa [isMk] using h2
      rcases (h.mrk s k f e v h1).2.2.2 with ⟨h3, _⟩ | ⟨_, o, rfl⟩
      · rw [hk] at h3; simp at h3
      · cases o <;> rfl
    | _ => cases h2
theorem okD_OS (n : Nat) (o : Option Str) : okD n (dOS o) = true := by cases o <;> cases n <;> rfl
theorem eqv_vals (b c : Bool) (o p : Option Str) : PyData.eqv (.tuple [.bool b, dOS o]) (.tuple [.bool c, dOS p]) = decide ((b, o) = (c, p)) := by
  show (PyData.eqv (.bool b) (.bool c) && (PyData.eqv (dOS o) (dOS p) && true)) = _
  have h1 : PyData.eqv (.bool b) (.bool c) = decide (b = c) := by cases b <;> cases c <;> rfl
  have h2 : PyData.eqv (dOS o) (dOS p) = decide (o = p) := by
    cases o with
    | none => cases p <;> rfl
    | some x => cases p with
      | none => rfl
      | some y => show PyData.eqv (.str x) (.str y) = _; rw [eqvS]; simp
  rw [h1, h2]
  by_cases e1 : b = c
  · by_cases e2 : o = p
    · simp [e1, e2]
    · simp [e1, e2]
  · simp [e1]
theorem eqD_vals (b c : Bool) (o p : Option Str) : eqD (.tuple [.bool b, dOS o]) (.tuple [.bool c, dOS p]) = some (.bool (decide ((b, o) = (c, p)))) := by
  unfold eqD
  rw [eqv_vals]
  have : ∀ (b : Bool) (o : Option Str), okD 32 (.tuple [.bool b, dOS o]) = true := fun b o => by simp [okD, okD_OS]
  rw [this, this]
  rfl
theorem sl_sp (x : Spn) : slD (dSp x) (some 1) none = some (.tuple [.bool x.2.1, dOS x.2.2]) := rfl
/-- the total length of the texts -/
def spLen (acc : List Spn) : Nat := (acc.map fun x => x.1.length).sum
theorem app_len (a b : Str) : (a ++ b).length = a.length + b.length := by rw [len_cps, app_cps, List.length_append, ← len_cps, ← len_cps]
theorem addS_len (acc : List Spn) (x : Spn) : spLen (addS acc x) = spLen acc + x.1.length ∧ (addS acc x).length ≤ acc.length + 1 := by
  unfold addS
  rcases List.eq_nil_or_concat acc with rfl | ⟨a, l, rfl⟩
  · simp [spLen]
  · rw [List.concat_eq_append]
    simp only [List.getLast?_concat]
    split
    · simp [spLen, app_len]; omega
    · simp [spLen]; omega
end Hm
/-! Pu10: spans, by the program and by the law -/
namespace Hm
open PySem PySem.SeqAt L2
def mkD (ds : List Deed) : List (D × D) := putAll [] ((["bold", "link"] : List Str).map fun k => (.str k, .list ((cmarks ds k).map dD)))
theorem mk_at (ds : List Deed) (k : Str) (hk : k = "bold" ∨ k = "link") : ixD (.dict (mkD ds)) (.str k) = some (.list ((cmarks ds k).map dD)) := by
  show dLook (mkD ds) (.text k) = _
  unfold mkD
  rw [look_all (fun k : Str => .str k) (fun k => .list ((cmarks ds k).map dD)) (fun k => .text k) (fun k => rfl)]
  rcases hk with rfl | rfl
  · simp [List.find?_cons]
  · simp [List.find?_cons]
theorem kix_at (k : Str) (hk : k = "bold" ∨ k = "link") {i : Nat} {δ : Dl} (h : fVar i δ = .ok (.str k)) : fKix [(.str "bold", .bool false), (.str "link", .none)] (fVar i) δ = .ok (bare k) := by
  unfold fKix
  rw [h, Rs.ok_bind, keyOf_str, Rs.of_some, Rs.ok_bind, look_bare k hk]
  rfl
theorem spans_in {ds : List Deed} (h : Fine ds) {s : Stm} (hs : s ∈ letS ds) (k : Str) (hk : k = "bold" ∨ k = "link") (x0 x2 x5 x8 : Sl) (vs : List D) (hv : vs.length ≤ 5) :
    Fn.b1_spans [x0, .dat (.dict (placesD (orderOf ds))), x2, .dat (.dict (mkD ds)), .dat (.str k), x5, .dat (dS s), .dat (.tuple vs), x8] =
      .nx [x0, .dat (.dict (placesD (orderOf ds))), x2, .dat (.dict (mkD ds)), .dat (.str k), x5, .dat (dS s), .dat (.tuple (vs ++ [valD (tellOf ds k s) k])), .dat (dOD (tellOf ds k s))] := by
  have f1 : fits 1 = true := rfl
  have fv : fits (vs.length + 1) = true := fits_of (by omega)
  have ha : ∀ x : D, addD (.tuple vs) (.tuple [x]) = some (.tuple (vs ++ [x])) := fun x => addD_t _ _ (by simpa using fv)
  have e0 := F_firstOf h hs k
  have e1 := mk_at ds k hk
  cases ht : tellOf ds k s with
  | none =>
    rw [ht] at e0
    have e2 := fun x8 => kix_at k hk (i := 4) (δ := [x0, .dat (.dict (placesD (orderOf ds))), x2, .dat (.dict (mkD ds)), .dat (.str k), x5, .dat (dS s), .dat (.tuple vs), x8]) rfl
    simp [Fn.b1_spans, e0, e1, dOD, isD, isNon, e2, f1, ha, valD]
  | some d =>
    rw [ht] at e0
    have := tell_in ht
    cases d with
    | mark s k f e v => simp [Fn.b1_spans, e0, e1, dOD, isD_D, ixD_5, f1, ha, valD]
    | _ => cases this.2.1
theorem ixD_sp0 (x : Spn) : ixD (dSp x) (.int 0) = some (.str x.1) := rfl
theorem addD_s (x y : Str) (h : x.length + y.length ≤ 16777216) : addD (.str x) (.str y) = some (.str (x ++ y)) := by
  show (if fits (x.length + y.length) then some (PyData.str (x ++ y)) else none) = _
  rw [fits_of h]; rfl
theorem spLen_last (a : List Spn) (l : Spn) : l.1.length ≤ spLen (a ++ [l]) := by simp [spLen]
theorem ixN_last (n : Nat) : ixN (n + 1) (-1) = some n := by
  unfold ixN
  rw [if_neg (by decide), if_pos (by omega)]
  congr 1
  omega
theorem set_last {t : Type} (a : List t) (l x : t) : (a ++ [l]).set a.length x = a ++ [x] := by
  rw [List.set_append_right _ _ (Nat.le_refl _)]
  simp
theorem addD_pre (x : Str) (b : Bool) (o : Option Str) : addD (.tuple [.str x]) (.tuple [.bool b, dOS o]) = some (dSp (x, b, o)) := rfl
theorem span_step {ds : List Deed} (h : Fine ds) {s : Stm} (hs : s ∈ letS ds) (x0 x4 x7 x8 : Sl) (acc : List Spn) (hl : spLen acc ≤ 100000) (hn : acc.length ≤ 100000) :
    ∃ y4 y7 y8, Fn.b2_spans [x0, .dat (.dict (placesD (orderOf ds))), .dat (.dict (lettersD ds)), .dat (.dict (mkD ds)), x4, .own (.list (acc.map dSp)), .dat (dS s), x7, x8] =
      .nx [x0, .dat (.dict (placesD (orderOf ds))), .dat (.dict (lettersD ds)), .dat (.dict (mkD ds)), y4, .own (.list ((addS acc (atOf ds s)).map dSp)), .dat (dS s), y7, y8] := by
  have f0 : fits 0 = true := rfl
  have f1 : fits 1 = true := rfl
  have fa : fits (acc.length + 1) = true := fits_of (by omega)
  have hb := val_bold h s
  have hk := val_link h s
  have hlet := ix_letter h.wr.nd hs
  have h1 := h.let1 hs
  let b := boldOf (tellOf ds "bold" s)
  let o := linkOf (tellOf ds "link" s)
  have hin : ∀ x8 : Sl, forS (ftN 4) Fn.b1_spans [.str "bold", .str "link"] [x0, .dat (.dict (placesD (orderOf ds))), .dat (.dict (lettersD ds)), .dat (.dict (mkD ds)), x4, .own (.list (acc.map dSp)), .dat (dS s), .dat (.tuple []), x8] =
      .nx [x0, .dat (.dict (placesD (orderOf ds))), .dat (.dict (lettersD ds)), .dat (.dict (mkD ds)), .dat (.str "link"), .own (.list (acc.map dSp)), .dat (dS s), .dat (.tuple [.bool b, dOS o]), .dat (dOD (tellOf ds "link" s))] := fun x8 => by
    rw [forS_cons]
    simp only [ftN_e, List.set_cons_succ, List.set_cons_zero]
    rw [spans_in h hs "bold" (.inl rfl) _ _ _ _ [] (by simp), turnS_nx, forS_cons]
    simp only [ftN_e, List.set_cons_succ, List.set_cons_zero]
    rw [spans_in h hs "link" (.inr rfl) _ _ _ _ _ (by simp), turnS_nx, forS_nil, hb, hk]
    rfl
  refine ⟨.dat (.str "link"), .dat (.tuple [.bool b, dOS o]), .dat (dOD (tellOf ds "link" s)), ?_⟩
  simp only [Fn.b2_spans, gSeq_e, gSet_e, fTup_e, fNil_e, Rs.ok_bind, List.length_nil, f0, need_true, So.of_ok, then_nx, List.set_cons_succ, List.set_cons_zero, gFor_e, fIt_e, fC_e, itemsOf, Rs.of_some, hin]
  have hat : atOf ds s = (letOf ds s, b, o) := rfl
  rcases List.eq_nil_or_concat acc with rfl | ⟨a, l, rfl⟩
  · have hcond : (bAnd (bTr (fSn 5)) (bOf (fOp eqD (fSl (fOp ixD (fSn 5) (fNeg (fC (.int 1)))) (foSome (fC (.int 1))) foNo) (fVar 7)))) [x0, .dat (.dict (placesD (orderOf ds))), .dat (.dict (lettersD ds)), .dat (.dict (mkD ds)), .dat (.str "link"), .own (.list (([] : List Spn).map dSp)), .dat (dS s), .dat (.tuple [.bool b, dOS o]), .dat (dOD (tellOf ds "link" s))] = .ok false := by
      simp [truD]
    rw [gIf_f _ _ _ _ hcond]
    simp [gApp, hlet, f1, addD_pre, addS, hat]
  · rw [List.concat_eq_append] at hl hn fa ⊢
    have hix : ixD (.list ((a ++ [l]).map dSp)) (.int (-1)) = some (dSp l) := by simp [atI_last]
    have hcond : (bAnd (bTr (fSn 5)) (bOf (fOp eqD (fSl (fOp ixD (fSn 5) (fNeg (fC (.int 1)))) (foSome (fC (.int 1))) foNo) (fVar 7)))) [x0, .dat (.dict (placesD (orderOf ds))), .dat (.dict (lettersD ds)), .dat (.dict (mkD ds)), .dat (.str "link"), .own (.list ((a ++ [l]).map dSp)), .dat (dS s), .dat (.tuple [.bool b, dOS o]), .dat (dOD (tellOf ds "link" s))] = .ok (decide (l.2 = (b, o))) := by
      have ht : truD (.list ((a ++ [l]).map dSp)) = some true := by simp [truD]
      have heq := eqD_vals l.2.1 b l.2.2 o
      simp only [bAnd_e, bTr_e, fSn_s, fSn_0o, Rs.ok_bind, ht, Rs.of_some, if_true, bOf_e, fOp_e, fSl_e, fNeg_e, fC_e, intOf_int, hix, foSome_e, foNo_e, sl_sp, fVar_s, fVar_0, heq, blOf_bool]
    have hll := spLen_last a l
    by_cases hc : l.2 = (b, o)
    · rw [gIf_t _ _ _ _ (by rw [hcond, decide_eq_true hc])]
      have hadd : addD (.str l.1) (.str (letOf ds s)) = some (.str (l.1 ++ letOf ds s)) := addD_s _ _ (by omega)
      have hlen : ((a ++ [l]).map dSp).length = a.length + 1 := by simp
      have e1 : (fOp addD (fTup (fCons (fOp addD (fOp ixD (fOp ixD (fSn 5) (fNeg (fC (.int 1)))) (fC (.int 0))) (fOp ixD (fVar 2) (fVar 6))) fNil)) (fVar 7)) [x0, .dat (.dict (placesD (orderOf ds))), .dat (.dict (lettersD ds)), .dat (.dict (mkD ds)), .dat (.str "link"), .own (.list ((a ++ [l]).map dSp)), .dat (dS s), .dat (.tuple [.bool b, dOS o]), .dat (dOD (tellOf ds "link" s))] = .ok (dSp (l.1 ++ letOf ds s, b, o)) := by
        simp only [fOp_e, fTup_e, fCons_e, fSn_s, fSn_0o, fNeg_e, fC_e, intOf_int, Rs.ok_bind, Rs.of_some, hix, ixD_sp0, fVar_s, fVar_0, hlet, hadd, fNil_e, List.length_cons, List.length_nil, Nat.zero_add, f1, need_true, addD_pre]
      unfold gSetI
      rw [e1, So.of_ok]
      simp only [List.getElem?_cons_succ, List.getElem?_cons_zero, fNeg_e, fC_e, Rs.ok_bind, intOf_int, Rs.of_some, So.of_ok, hlen, ixN_last, List.set_cons_succ, List.set_cons_zero]
      have : ((a ++ [l]).map dSp).set a.length (dSp (l.1 ++ letOf ds s, b, o)) = (addS (a ++ [l]) (atOf ds s)).map dSp := by
        have hst := set_last (a.map dSp) (dSp l) (dSp (l.1 ++ letOf ds s, b, o))
        rw [List.length_map] at hst
        rw [List.map_append, List.map_cons, List.map_nil, hst]
        simp [addS, hat, hc]
      rw [this]
    · rw [gIf_f _ _ _ _ (by rw [hcond, decide_eq_false hc])]
      have hf : fits ((a ++ [l]).map dSp).length.succ = true := by simpa using fa
      have e1 : (fOp addD (fTup (fCons (fOp ixD (fVar 2) (fVar 6)) fNil)) (fVar 7)) [x0, .dat (.dict (placesD (orderOf ds))), .dat (.dict (lettersD ds)), .dat (.dict (mkD ds)), .dat (.str "link"), .own (.list ((a ++ [l]).map dSp)), .dat (dS s), .dat (.tuple [.bool b, dOS o]), .dat (dOD (tellOf ds "link" s))] = .ok (dSp (letOf ds s, b, o)) := by
        simp only [fOp_e, fTup_e, fCons_e, fVar_s, fVar_0, Rs.ok_bind, Rs.of_some, hlet, fNil_e, List.length_cons, List.length_nil, Nat.zero_add, f1, need_true, addD_pre]
      unfold gApp
      simp only [List.getElem?_cons_succ, List.getElem?_cons_zero, e1, So.of_ok, hf, if_true, List.set_cons_succ, List.set_cons_zero]
      have : (a ++ [l]).map dSp ++ [dSp (letOf ds s, b, o)] = (addS (a ++ [l]) (atOf ds s)).map dSp := by
        simp [addS, hat, hc]
      rw [this]
theorem spans_loop {ds : List Deed} (h : Fine ds) (x0 : Sl) : ∀ (ss : List Stm) (acc : List Spn) (x4 x6 x7 x8 : Sl), (∀ s ∈ ss, s ∈ letS ds) → spLen acc + ss.length ≤ 100000 → acc.length + ss.length ≤ 100000 → ∃ y4 y6 y7 y8,
    forS (ftN 6) Fn.b2_spans (ss.map dS) [x0, .dat (.dict (placesD (orderOf ds))), .dat (.dict (lettersD ds)), .dat (.dict (mkD ds)), x4, .own (.list (acc.map dSp)), x6, x7, x8] =
      .nx [x0, .dat (.dict (placesD (orderOf ds))), .dat (.dict (lettersD ds)), .dat (.dict (mkD ds)), y4, .own (.list (((ss.map (atOf ds)).foldl addS acc).map dSp)), y6, y7, y8]
  | [], acc, x4, x6, x7, x8, _, _, _ => ⟨x4, x6, x7, x8, rfl⟩
  | s :: r, acc, x4, x6, x7, x8, hs, h1, h2 => by
    rw [List.map_cons, forS_cons]
    simp only [ftN_e, List.set_cons_succ, List.set_cons_zero]
    simp only [List.length_cons] at h1 h2
    have hsl := hs s List.mem_cons_self
    obtain ⟨y4, y7, y8, he⟩ := span_step h hsl x0 x4 x7 x8 acc (by omega) (by omega)
    have hle := addS_len acc (atOf ds s)
    have hl1 : (atOf ds s).1.length = 1 := h.let1 hsl
    obtain ⟨z4, z6, z7, z8, hz⟩ := spans_loop h x0 r (addS acc (atOf ds s)) y4 (.dat (dS s)) y7 y8 (fun t ht => hs t (List.mem_cons_of_mem _ ht)) (by omega) (by omega)
    exact ⟨z4, z6, z7, z8, by rw [he, turnS_nx]; exact hz⟩
theorem F_spans {ds : List Deed} (h : Fine ds) (hl : ds.length ≤ 1500) : Fn.F_spans [.tuple (ds.map dD)] = .ok (.tuple ((spansOf ds).map dSp)) := by
  unfold Fn.F_spans
  rw [fnD_1 8]
  have hol := h.olen
  have hsl := shownL_len (ds := ds)
  have f0 : fits 0 = true := rfl
  have f2 : fits 2 = true := rfl
  have e1 : Fn.c1_spans [.dat (.tuple (ds.map dD)), .dat (.dict (placesD (orderOf ds))), .dat (.dict (lettersD ds)), .no, .no, .no, .no, .no, .no] = .ok (.list ((["bold", "link"] : List Str).map fun k => .tuple [.str k, .list ((cmarks ds k).map dD)])) := by
    unfold Fn.c1_spans
    refine fLc_all (fun k : Str => .str k) (fun k => .tuple [.str k, .list ((cmarks ds k).map dD)]) ["bold", "link"] (by simp) rfl fun k hk => ⟨_, rfl, ?_⟩
    simp [wipeS, F_cmarks ds k (by omega), f2]
  have e2 : dictD (.list ((["bold", "link"] : List Str).map fun k => .tuple [.str k, .list ((cmarks ds k).map dD)])) = some (.dict (mkD ds)) :=
    dictD_map (fun k : Str => .str k) (fun k => .list ((cmarks ds k).map dD)) (fun k => .text k) (fun k => rfl) ["bold", "link"] (by simp)
  obtain ⟨y4, y6, y7, y8, hlp⟩ := spans_loop h (.dat (.tuple (ds.map dD))) (shownL ds) [] .no .no .no .no h.shown_let (by simp [spLen]; omega) (by simp; omega)
  simp only [List.map_nil] at hlp
  simp only [Fn.g_spans, List.replicate, gSeq_e, gPar_e, fCallF_e, fCons_e, fVar_0, fNil_e, Rs.ok_bind, F_places h.wr hl, noX_ok_e, So.of_ok, F_letters ds (by omega), then_nx, List.set_cons_succ, List.set_cons_zero, gSet_e, fCall_e, e1, g1_e, e2, Rs.of_some, gOwn_e, fLst_e, List.length_nil, f0, need_true, isCont, if_true, gFor_e, fIt_e, F_shown h.wr hl, itemsOf, hlp, gRet_e, fSn_s, fSn_0o, tupleD_l, fin_rt]
  rfl
end Hm
/-! Pu11: the law's own walks: covers, teller, values, spans -/
namespace Hm
open PySem PySem.SeqAt L2
theorem index_S {row : List Stm} {s : Stm} (hs : s ∈ row) (hl : row.length ≤ 100000) : indexD (.list (row.map dS)) (dS s) = some (.int (row.idxOf s : Nat)) := by
  have h1 : (row.map dS).all (okD 32) = true := by
    rw [List.all_eq_true]
    intro x hx
    obtain ⟨t, _, rfl⟩ := List.mem_map.mp hx
    exact okD_S 31 t
  show (if (okD 32 (dS s) && (row.map dS).all (okD 32) && fits (row.map dS).length) = true then ((row.map dS).findIdx? fun y => PyData.eqv y (dS s)).map fun j => PyData.int (j : Nat) else none) = _
  rw [h1, okD_S 31 s, List.length_map, fits_of (by omega)]
  simp only [Bool.and_self, if_true]
  have h2 : ∀ (l : List Stm), s ∈ l → (l.map dS).findIdx? (fun y => PyData.eqv y (dS s)) = some (l.idxOf s) := fun l => by
    induction l with
    | nil => intro h; simp at h
    | cons t r ih =>
      intro h
      rw [List.map_cons, List.findIdx?_cons, eqv_S, List.idxOf_cons]
      by_cases e : t = s
      · subst e; simp
      · have hr : s ∈ r := by
          rcases List.mem_cons.mp h with h | h
          · exact absurd h.symm e
          · exact h
        have e' : (t == s) = false := by simpa using e
        simp [e, e', ih hr]
  rw [h2 row hs]
  rfl
theorem isNotD_O (e : Option Stm) : isNotD (dO e) .none = some (.bool (decide (e ≠ none))) := by cases e <;> rfl
theorem isNotD_S (s : Stm) : isNotD (dS s) .none = some (.bool true) := rfl
theorem intD_b (b : Bool) : intD (.bool b) = some (.int (if b = true then 1 else 0)) := rfl
theorem F_lawcovers {row : List Stm} (hl : row.length ≤ 100000) {s : Stm} (hs : s ∈ row) {d : Deed} (hd : MkOk row d) : Fn.F__law_covers [.list (row.map dS), dD d, dS s] = .ok (.bool (covB row s d)) := by
  cases d with
  | mark t k f e v =>
    obtain ⟨hf, he, hk, hv⟩ := hd
    unfold Fn.F__law_covers
    rw [fnD_3 4]
    have p1 := index_S hs hl
    have p2 := index_S hf hl
    have hlt : row.idxOf s < row.length := List.idxOf_lt_length_of_mem hs
    have st : gTupS [3, 4, 5] (fSl (fVar 1) (foSome (fC (.int 2))) (foSome (fC (.int 5)))) [.dat (.list (row.map dS)), .dat (dD (.mark t k f e v)), .dat (dS s), .no, .no, .no, .no] = .nx [.dat (.list (row.map dS)), .dat (dD (.mark t k f e v)), .dat (dS s), .dat (.str k), .dat (dS f), .dat (dO e), .no] := by
      unfold gTupS
      simp [sl_mark, ftT, setAll]
    simp only [Fn.g__law_covers, List.replicate, gSeq_e, st, then_nx]
    have hle : ∀ i j : Nat, (decide ((i : Int) ≤ (j : Int))) = !decide (j < i) := fun i j => by
      by_cases h : j < i
      · have h' : ¬ ((i : Int) ≤ j) := by omega
        simp [h, h']
      · have h' : ((i : Int) ≤ j) := by omega
        simp [h, h']
    cases e with
    | none =>
      by_cases h1 : row.idxOf s < row.idxOf f
      · have h2 : ¬ row.idxOf f ≤ row.idxOf s := by omega
        simp [p1, p2, fLs, lsOf, dO, isNotD, isNon, leD, covB, h1, h2]
      · have h2 : row.idxOf f ≤ row.idxOf s := by omega
        simp [p1, p2, fLs, lsOf, dO, isNotD, isNon, leD, covB, h1, h2, hlt]
    | some u =>
      have p3 := index_S (he u rfl) hl
      by_cases h1 : row.idxOf s < row.idxOf f
      · have h2 : ¬ row.idxOf f ≤ row.idxOf s := by omega
        simp [p1, p2, p3, fLs, lsOf, isNotD_S, leD, covB, h1, h2, eqD_str, intD_b, dO]
      · have h2 : row.idxOf f ≤ row.idxOf s := by omega
        by_cases hkl : k = "link"
        · subst hkl
          by_cases h3 : row.idxOf s ≤ row.idxOf u
          · have h4 : ((row.idxOf s : Nat) : Int) < (row.idxOf u : Nat) + 1 := by omega
            simp [p1, p2, p3, fLs, lsOf, isNotD_S, leD, covB, h1, h2, h3, h4, eqD_str, intD_b, dO]
          · have h4 : ¬ ((row.idxOf s : Nat) : Int) < (row.idxOf u : Nat) + 1 := by omega
            simp [p1, p2, p3, fLs, lsOf, isNotD_S, leD, covB, h1, h2, h3, h4, eqD_str, intD_b, dO]
        · by_cases h3 : row.idxOf s < row.idxOf u
          · simp [p1, p2, p3, fLs, lsOf, isNotD_S, leD, covB, h1, h2, h3, hkl, eqD_str, intD_b, dO]
          · simp [p1, p2, p3, fLs, lsOf, isNotD_S, leD, covB, h1, h2, h3, hkl, eqD_str, intD_b, dO]
  | _ => exact hd.elim
theorem lawteller_loop {ds : List Deed} {row : List Stm} (hl : row.length ≤ 100000) {s : Stm} (hs : s ∈ row) (k : Str) : ∀ (es : List Deed) (cur : Option Deed) (x : Sl), (∀ d ∈ es, isMark d = true → MkOk row d) →
    ∃ y, forS (ftN 5) Fn.b1__law_teller (es.map dD) [.dat (.tuple (ds.map dD)), .dat (.list (row.map dS)), .dat (dS s), .dat (.str k), .dat (dOD cur), x] = .nx [.dat (.tuple (ds.map dD)), .dat (.list (row.map dS)), .dat (dS s), .dat (.str k), .dat (dOD ((es.reverse.find? fun d => isMk k d && (covB row s d && lastB d.st true ds)).or cur)), y]
  | [], cur, x, _ => ⟨x, rfl⟩
  | d :: r, cur, x, h => by
    rw [List.map_cons, forS_cons]
    simp only [ftN_e, List.set_cons_succ, List.set_cons_zero]
    have hr := fun q hq => h q (List.mem_cons_of_mem d hq)
    have step : Fn.b1__law_teller [.dat (.tuple (ds.map dD)), .dat (.list (row.map dS)), .dat (dS s), .dat (.str k), .dat (dOD cur), .dat (dD d)] = .nx [.dat (.tuple (ds.map dD)), .dat (.list (row.map dS)), .dat (dS s), .dat (.str k), .dat (dOD (if (isMk k d && (covB row s d && lastB d.st true ds)) = true then some d else cur)), .dat (dD d)] := by
      cases d with
      | mark t k' f e v =>
        have hc := F_lawcovers hl hs (h _ List.mem_cons_self rfl)
        have i2 : ixD (dD (.mark t k' f e v)) (.int 2) = some (.str k') := rfl
        by_cases hk : k' = k
        · subst hk
          cases hb : covB row s (.mark t k' f e v) with
          | false => simp [Fn.b1__law_teller, eqD_str, Deed.word, i2, isMk, hc, hb]
          | true =>
            cases hcb : lastB t true ds with
            | false => simp [Fn.b1__law_teller, eqD_str, Deed.word, i2, isMk, hc, hb, F_lawcounts, Deed.st, hcb]
            | true => simp [Fn.b1__law_teller, eqD_str, Deed.word, i2, isMk, hc, hb, F_lawcounts, Deed.st, hcb, dOD]
        · simp [Fn.b1__law_teller, eqD_str, Deed.word, i2, hk, isMk]
      | _ => simp [Fn.b1__law_teller, eqD_str, Deed.word, isMk]
    obtain ⟨y, hy⟩ := lawteller_loop hl hs k r _ (.dat (dD d)) hr
    refine ⟨y, ?_⟩
    rw [step, turnS_nx, hy, List.reverse_cons, List.find?_append]
    cases r.reverse.find? fun d => isMk k d && (covB row s d && lastB d.st true ds) with
    | some q => rfl
    | none =>
      cases hp : (isMk k d && (covB row s d && lastB d.st true ds)) with
      | true => simp [hp]
      | false => simp [hp]
theorem tellOf_eq {ds : List Deed} (h : Rise ds) (k : Str) (s : Stm) : tellOf ds k s = ds.reverse.find? fun d => isMk k d && (covB (orderOf ds) s d && lastB d.st true ds) := by
  unfold tellOf cmarks marksL
  rw [← List.filter_reverse, List.find?_filter, List.find?_filter]
  congr 1
  funext d
  rw [counts_last h]
  cases isMk k d <;> cases covB (orderOf ds) s d <;> cases lastB d.st true ds <;> rfl
theorem F_lawteller {ds : List Deed} (h : Fine ds) (hl : ds.length ≤ 1500) {s : Stm} (hs : s ∈ letS ds) (k : Str) : Fn.F__law_teller [.tuple (ds.map dD), .list ((orderOf ds).map dS), dS s, .str k] = .ok (dOD (tellOf ds k s)) := by
  unfold Fn.F__law_teller
  rw [fnD_4 2]
  have hol := h.olen
  obtain ⟨y, hy⟩ := lawteller_loop (ds := ds) (row := orderOf ds) (by omega) (h.all s hs) k ds none .no fun d hd hm => h.mkOk hd hm
  have hn : (dOD none : D) = .none := rfl
  rw [hn] at hy
  simp only [Fn.g__law_teller, List.replicate, gSeq_e, gSet_e, fC_e, So.of_ok, then_nx, List.set_cons_succ, List.set_cons_zero, gFor_e, fIt_e, fVar_0, Rs.ok_bind, itemsOf, Rs.of_some, hy, gRet_e, fVar_s, fin_rt]
  rw [tellOf_eq h.rise]
  simp
def vD (b : Bool) (o : Option Str) : D := .tuple [.bool b, dOS o]
theorem F_lawvalues {ds : List Deed} (h : Fine ds) (hl : ds.length ≤ 1500) {s : Stm} (hs : s ∈ letS ds) : Fn.F__law_values [.tuple (ds.map dD), .list ((orderOf ds).map dS), dS s] = .ok (.tuple [.bool (boldOf (tellOf ds "bold" s)), dOS (linkOf (tellOf ds "link" s))]) := by
  unfold Fn.F__law_values
  rw [fnD_3 2]
  have f2 : fits 2 = true := rfl
  have hb := val_bold h s
  have hk := val_link h s
  have e1 := F_lawteller h hl hs "bold"
  have e2 := F_lawteller h hl hs "link"
  have g1 : ∀ x4 : Sl, fIf (bOf (fOp isD (fVar 3) (fC .none))) (fC (.bool false)) (fOp ixD (fVar 3) (fC (.int 5))) [.dat (.tuple (ds.map dD)), .dat (.list ((orderOf ds).map dS)), .dat (dS s), .dat (dOD (tellOf ds "bold" s)), x4] = .ok (.bool (boldOf (tellOf ds "bold" s))) := fun x4 => by
    rw [← hb]
    cases ht : tellOf ds "bold" s with
    | none => simp [dOD, isD, isNon, valD, bare]
    | some d =>
      have := tell_in ht
      cases d with
      | mark s k f e v => simp [dOD, isD_D, ixD_5, valD]
      | _ => cases this.2.1
  have g2 : ∀ x3 : Sl, fIf (bOf (fOp isD (fVar 4) (fC .none))) (fC .none) (fOp ixD (fVar 4) (fC (.int 5))) [.dat (.tuple (ds.map dD)), .dat (.list ((orderOf ds).map dS)), .dat (dS s), x3, .dat (dOD (tellOf ds "link" s))] = .ok (dOS (linkOf (tellOf ds "link" s))) := fun x3 => by
    rw [← hk]
    cases ht : tellOf ds "link" s with
    | none => simp [dOD, isD, isNon, valD, bare]
    | some d =>
      have := tell_in ht
      cases d with
      | mark s k f e v => simp [dOD, isD_D, ixD_5, valD]
      | _ => cases this.2.1
  simp only [Fn.g__law_values, List.replicate, gSeq_e, gPar_e, fCallF_e, fCons_e, fVar_0, fVar_s, fC_e, fNil_e, Rs.ok_bind, e1, e2, noX_ok_e, So.of_ok, then_nx, List.set_cons_succ, List.set_cons_zero, gRet_e, fTup_e, g1, g2, List.length_cons, List.length_nil, Nat.zero_add, Nat.reduceAdd, f2, need_true, fin_rt]
/-! ### spans by the law -/
theorem lawspan_step {ds : List Deed} (h : Fine ds) (hl : ds.length ≤ 1500) {s : Stm} (hs : s ∈ letS ds) (x2 x6 : Sl) (acc : List Spn) (hla : spLen acc ≤ 100000) (hn : acc.length ≤ 100000) (hsh : lawShownB ds s = true) :
    ∃ y6, Fn.b1__law_spans [.dat (.tuple (ds.map dD)), .dat (.dict (lettersD ds)), x2, .dat (.list ((orderOf ds).map dS)), .own (.list (acc.map dSp)), .dat (dS s), x6] =
      .nx [.dat (.tuple (ds.map dD)), .dat (.dict (lettersD ds)), x2, .dat (.list ((orderOf ds).map dS)), .own (.list ((addS acc (atOf ds s)).map dSp)), .dat (dS s), y6] := by
  have f0 : fits 0 = true := rfl
  have f1 : fits 1 = true := rfl
  have fa : fits (acc.length + 1) = true := fits_of (by omega)
  have hlet := ix_letter h.wr.nd hs
  have h1 := h.let1 hs
  let b := boldOf (tellOf ds "bold" s)
  let o := linkOf (tellOf ds "link" s)
  have hat : atOf ds s = (letOf ds s, b, o) := rfl
  have hv : Fn.F__law_values [.tuple (ds.map dD), .list ((orderOf ds).map dS), dS s] = .ok (.tuple [.bool b, dOS o]) := F_lawvalues h hl hs
  clear_value b o
  refine ⟨.dat (.tuple [.bool b, dOS o]), ?_⟩
  unfold Fn.b1__law_spans
  rw [gIf_t _ _ _ _ (by simp [F_lawshown, hsh])]
  simp only [gSeq_e, gSet_e, fCallF_e, fCons_e, fVar_0, fVar_s, fNil_e, Rs.ok_bind, hv, noX_ok_e, So.of_ok, then_nx, List.set_cons_succ, List.set_cons_zero]
  rcases List.eq_nil_or_concat acc with rfl | ⟨a, l, rfl⟩
  · have hcond : (bAnd (bTr (fSn 4)) (bOf (fOp eqD (fSl (fOp ixD (fSn 4) (fNeg (fC (.int 1)))) (foSome (fC (.int 1))) foNo) (fVar 6)))) [.dat (.tuple (ds.map dD)), .dat (.dict (lettersD ds)), x2, .dat (.list ((orderOf ds).map dS)), .own (.list (([] : List Spn).map dSp)), .dat (dS s), .dat (.tuple [.bool b, dOS o])] = .ok false := by
      simp [truD]
    rw [gIf_f _ _ _ _ hcond]
    have hp := addD_pre (letOf ds s) b o
    simp only [gApp, List.map_nil, List.getElem?_cons_succ, List.getElem?_cons_zero, fOp_e, fTup_e, fCons_e, fVar_s, fVar_0, fNil_e, Rs.ok_bind, Rs.of_some, hlet, List.length_cons, List.length_nil, Nat.zero_add, f1, need_true, So.of_ok, if_true, List.nil_append, List.set_cons_succ, List.set_cons_zero]
    rw [hp, hat]
    rfl
  · rw [List.concat_eq_append] at hla hn fa ⊢
    have hix : ixD (.list ((a ++ [l]).map dSp)) (.int (-1)) = some (dSp l) := by simp [atI_last]
    have hcond : (bAnd (bTr (fSn 4)) (bOf (fOp eqD (fSl (fOp ixD (fSn 4) (fNeg (fC (.int 1)))) (foSome (fC (.int 1))) foNo) (fVar 6)))) [.dat (.tuple (ds.map dD)), .dat (.dict (lettersD ds)), x2, .dat (.list ((orderOf ds).map dS)), .own (.list ((a ++ [l]).map dSp)), .dat (dS s), .dat (.tuple [.bool b, dOS o])] = .ok (decide (l.2 = (b, o))) := by
      have ht : truD (.list ((a ++ [l]).map dSp)) = some true := by simp [truD]
      have heq := eqD_vals l.2.1 b l.2.2 o
      simp only [bAnd_e, bTr_e, fSn_s, fSn_0o, Rs.ok_bind, ht, Rs.of_some, if_true, bOf_e, fOp_e, fSl_e, fNeg_e, fC_e, intOf_int, hix, foSome_e, foNo_e, sl_sp, fVar_s, fVar_0, heq, blOf_bool]
    have hll := spLen_last a l
    by_cases hc : l.2 = (b, o)
    · rw [gIf_t _ _ _ _ (by rw [hcond, decide_eq_true hc])]
      have hadd : addD (.str l.1) (.str (letOf ds s)) = some (.str (l.1 ++ letOf ds s)) := addD_s _ _ (by omega)
      have hlen : ((a ++ [l]).map dSp).length = a.length + 1 := by simp
      have e1 : (fOp addD (fTup (fCons (fOp addD (fOp ixD (fOp ixD (fSn 4) (fNeg (fC (.int 1)))) (fC (.int 0))) (fOp ixD (fVar 1) (fVar 5))) fNil)) (fVar 6)) [.dat (.tuple (ds.map dD)), .dat (.dict (lettersD ds)), x2, .dat (.list ((orderOf ds).map dS)), .own (.list ((a ++ [l]).map dSp)), .dat (dS s), .dat (.tuple [.bool b, dOS o])] = .ok (dSp (l.1 ++ letOf ds s, b, o)) := by
        simp only [fOp_e, fTup_e, fCons_e, fSn_s, fSn_0o, fNeg_e, fC_e, intOf_int, Rs.ok_bind, Rs.of_some, hix, ixD_sp0, fVar_s, fVar_0, hlet, hadd, fNil_e, List.length_cons, List.length_nil, Nat.zero_add, f1, need_true, addD_pre]
      unfold gSetI
      rw [e1, So.of_ok]
      simp only [List.getElem?_cons_succ, List.getElem?_cons_zero, fNeg_e, fC_e, Rs.ok_bind, intOf_int, Rs.of_some, So.of_ok, hlen, ixN_last, List.set_cons_succ, List.set_cons_zero]
      have : ((a ++ [l]).map dSp).set a.length (dSp (l.1 ++ letOf ds s, b, o)) = (addS (a ++ [l]) (atOf ds s)).map dSp := by
        have hst := set_last (a.map dSp) (dSp l) (dSp (l.1 ++ letOf ds s, b, o))
        rw [List.length_map] at hst
        rw [List.map_append, List.map_cons, List.map_nil, hst]
        simp [addS, hat, hc]
      rw [this]
    · rw [gIf_f _ _ _ _ (by rw [hcond, decide_eq_false hc])]
      have hf : fits ((a ++ [l]).map dSp).length.succ = true := by simpa using fa
      have e1 : (fOp addD (fTup (fCons (fOp ixD (fVar 1) (fVar 5)) fNil)) (fVar 6)) [.dat (.tuple (ds.map dD)), .dat (.dict (lettersD ds)), x2, .dat (.list ((orderOf ds).map dS)), .own (.list ((a ++ [l]).map dSp)), .dat (dS s), .dat (.tuple [.bool b, dOS o])] = .ok (dSp (letOf ds s, b, o)) := by
        simp only [fOp_e, fTup_e, fCons_e, fVar_s, fVar_0, Rs.ok_bind, Rs.of_some, hlet, fNil_e, List.length_cons, List.length_nil, Nat.zero_add, f1, need_true, addD_pre]
      unfold gApp
      simp only [List.getElem?_cons_succ, List.getElem?_cons_zero, e1, So.of_ok, hf, if_true, List.set_cons_succ, List.set_cons_zero]
      have : (a ++ [l]).map dSp ++ [dSp (letOf ds s, b, o)] = (addS (a ++ [l]) (atOf ds s)).map dSp := by
        simp [addS, hat, hc]
      rw [this]
theorem lawspans_loop {ds : List Deed} (h : Fine ds) (hl : ds.length ≤ 1500) (x2 : Sl) : ∀ (ss : List Stm) (acc : List Spn) (x5 x6 : Sl), (∀ s ∈ ss, s ∈ letS ds) → spLen acc + ss.length ≤ 100000 → acc.length + ss.length ≤ 100000 → ∃ y5 y6,
    forS (ftN 5) Fn.b1__law_spans (ss.map dS) [.dat (.tuple (ds.map dD)), .dat (.dict (lettersD ds)), x2, .dat (.list ((orderOf ds).map dS)), .own (.list (acc.map dSp)), x5, x6] =
      .nx [.dat (.tuple (ds.map dD)), .dat (.dict (lettersD ds)), x2, .dat (.list ((orderOf ds).map dS)), .own (.list ((((ss.filter (lawShownB ds)).map (atOf ds)).foldl addS acc).map dSp)), y5, y6]
  | [], acc, x5, x6, _, _, _ => ⟨x5, x6, rfl⟩
  | s :: r, acc, x5, x6, hs, h1, h2 => by
    rw [List.map_cons, forS_cons]
    simp only [ftN_e, List.set_cons_succ, List.set_cons_zero]
    simp only [List.length_cons] at h1 h2
    have hsl := hs s List.mem_cons_self
    have hr := fun t ht => hs t (List.mem_cons_of_mem s ht)
    cases hsh : lawShownB ds s with
    | true =>
      obtain ⟨y6, he⟩ := lawspan_step h hl hsl x2 x6 acc (by omega) (by omega) hsh
      have hle := addS_len acc (atOf ds s)
      have hl1 : (atOf ds s).1.length = 1 := h.let1 hsl
      obtain ⟨z5, z6, hz⟩ := lawspans_loop h hl x2 r (addS acc (atOf ds s)) (.dat (dS s)) y6 hr (by omega) (by omega)
      refine ⟨z5, z6, ?_⟩
      rw [he, turnS_nx, hz, List.filter_cons, hsh]
      rfl
    | false =>
      have he : Fn.b1__law_spans [.dat (.tuple (ds.map dD)), .dat (.dict (lettersD ds)), x2, .dat (.list ((orderOf ds).map dS)), .own (.list (acc.map dSp)), .dat (dS s), x6] = .nx [.dat (.tuple (ds.map dD)), .dat (.dict (lettersD ds)), x2, .dat (.list ((orderOf ds).map dS)), .own (.list (acc.map dSp)), .dat (dS s), x6] := by
        unfold Fn.b1__law_spans
        rw [gIf_f _ _ _ _ (by simp [F_lawshown, hsh])]
        rfl
      obtain ⟨z5, z6, hz⟩ := lawspans_loop h hl x2 r acc (.dat (dS s)) x6 hr (by omega) (by omega)
      refine ⟨z5, z6, ?_⟩
      rw [he, turnS_nx, hz, List.filter_cons, hsh]
      rfl
theorem laworder30 {ds : List Deed} (h : Fine ds) (hl : ds.length < 30) : Fn.F__law_order 30 [.tuple (ds.map dD), .none] = .ok (.list ((orderOf ds).map dS)) := by
  have hlo := F_laworder h.wr h.rise (by omega) 30 none (by have := above_le ds none; omega)
  have henough := dfsF_enough h.wr 30 (ds.length + 1) none (by have := above_le ds none; omega) (by have := above_le ds none; omega)
  rw [henough] at hlo
  exact hlo
theorem F_lawspans {ds : List Deed} (h : Fine ds) (hl : ds.length < 30) : Fn.F__law_spans [.tuple (ds.map dD)] = .ok (.tuple ((spansOf ds).map dSp)) := by
  unfold Fn.F__law_spans
  rw [fnD_1 6]
  have hol := h.olen
  have f0 : fits 0 = true := rfl
  have f2 : fits 2 = true := rfl
  have e1 : Fn.c1__law_spans [.dat (.tuple (ds.map dD)), .no, .no, .no, .no, .no, .no] = .ok (.list ((ds.filter isWr).map fun d => .tuple [dS d.st, .str (chr d)])) := by
    unfold Fn.c1__law_spans
    refine fLc_map dD isWr (fun d => .tuple [dS d.st, .str (chr d)]) ds (by omega) (by simp [itemsOf]) fun d hd => ⟨_, rfl, ?_, fun hp => ?_⟩
    · cases d <;> simp [wipeS, eqD_str, isWr, Deed.word]
    · cases d with
      | write s a c => simp [wipeS, dD, f2, Deed.st, chr]
      | _ => cases hp
  have e2 : dictD (.list ((ds.filter isWr).map fun d => .tuple [dS d.st, .str (chr d)])) = some (.dict (lettersD ds)) := dictD_map (fun d : Deed => dS d.st) (fun d => .str (chr d)) (fun d => kO (some d.st)) (fun d => keyOf_S d.st) (ds.filter isWr) (by have := filter_len isWr ds; omega)
  obtain ⟨y5, y6, hlp⟩ := lawspans_loop h (by omega) .no (orderOf ds) [] .no .no h.sub (by simp [spLen]; omega) (by simp; omega)
  simp only [List.map_nil] at hlp
  have hsame : (orderOf ds).filter (lawShownB ds) = shownL ds := by
    unfold shownL
    congr 1
    funext s
    exact (shown_last h.rise s).symm
  simp only [Fn.g__law_spans, List.replicate, gSeq_e, gSet_e, fCall_e, fCons_e, e1, fNil_e, Rs.ok_bind, g1_e, e2, Rs.of_some, So.of_ok, then_nx, List.set_cons_succ, List.set_cons_zero, fCallF_e, fVar_0, fVar_s, fC_e, laworder30 h hl, noX_ok_e, gOwn_e, fLst_e, List.length_nil, f0, need_true, isCont, if_true, gFor_e, fIt_e, itemsOf, hlp, gRet_e, fSn_s, fSn_0o, tupleD_l, fin_rt]
  rw [hsame]
  rfl
end Hm
/-! Pu12: loops by an invariant, texts of spans, what can be compared -/
namespace Hm
open PySem PySem.SeqAt L2
theorem forS_inv {I : Dl → Prop} {ft : Ftg} {gb : Fs} : ∀ (xs : List D), (∀ x ∈ xs, ∀ δ, I δ → ∃ δ1 δ2, ft x δ = some δ1 ∧ gb δ1 = .nx δ2 ∧ I δ2) → ∀ δ, I δ → ∃ δ', forS ft gb xs δ = .nx δ' ∧ I δ'
  | [], _, δ, h => ⟨δ, rfl, h⟩
  | x :: r, step, δ, h => by
    obtain ⟨δ1, δ2, h1, h2, h3⟩ := step x List.mem_cons_self δ h
    obtain ⟨δ', h4, h5⟩ := forS_inv r (fun y hy => step y (List.mem_cons_of_mem _ hy)) δ2 h3
    refine ⟨δ', ?_, h5⟩
    rw [forS_cons, h1]
    dsimp only
    rw [h2, turnS_nx, h4]
theorem rangeD_mem {n : Nat} {x : D} (h : x ∈ rangeD 0 n) : ∃ k : Nat, k < n ∧ x = .int (k : Int) := by
  unfold rangeD at h
  obtain ⟨i, hi, rfl⟩ := List.mem_map.mp h
  exact ⟨i, List.mem_range.mp hi, by simp⟩
theorem catS_app (a b : List Str) : catS (a ++ b) = catS a ++ catS b := str_ext (by rw [app_cps]; simp [catS])
theorem str_nil (a : Str) : a ++ catS [] = a := str_ext (by rw [app_cps]; simp [catS])
theorem nil_str (a : Str) : catS [] ++ a = a := str_ext (by rw [app_cps]; simp [catS])
theorem str_assoc (a b c : Str) : a ++ b ++ c = a ++ (b ++ c) := str_ext (by simp [app_cps])
theorem catS_one (a : Str) : catS [a] = a := str_ext (by simp [catS])
theorem catS_cons (a : Str) (r : List Str) : catS (a :: r) = a ++ catS r := str_ext (by rw [app_cps]; simp [catS])
theorem addS_text (acc : List Spn) (x : Spn) : catS ((addS acc x).map (·.1)) = catS (acc.map (·.1)) ++ x.1 := by
  unfold addS
  rcases List.eq_nil_or_concat acc with rfl | ⟨a, l, rfl⟩
  · simp [catS_one, nil_str]
  · rw [List.concat_eq_append]
    simp only [List.getLast?_concat]
    split
    · simp [catS_app, catS_one, str_assoc]
    · simp only [List.map_append, catS_app, List.map_cons, List.map_nil, catS_one]
theorem foldS_text : ∀ (l acc : List Spn), catS ((l.foldl addS acc).map (·.1)) = catS (acc.map (·.1)) ++ catS (l.map (·.1))
  | [], acc => by simp [str_nil]
  | x :: r, acc => by
    rw [List.foldl_cons, foldS_text r, addS_text, List.map_cons, catS_cons, str_assoc]
theorem spans_text (l : List Spn) : catS ((spansF l).map (·.1)) = catS (l.map (·.1)) := by
  unfold spansF
  rw [foldS_text l []]
  exact nil_str _
theorem flat_text (ds : List Deed) : catS ((flatOf ds).map (·.1)) = textOf ds := by
  unfold flatOf textOf
  rw [List.map_map]
  rfl
theorem spansF_len (l : List Spn) : (spansF l).length ≤ l.length := by
  have : ∀ (l acc : List Spn), (l.foldl addS acc).length ≤ acc.length + l.length := fun l => by
    induction l with
    | nil => intro acc; simp
    | cons x r ih =>
      intro acc
      have h1 := ih (addS acc x)
      have h2 := (addS_len acc x).2
      simp only [List.foldl_cons, List.length_cons]
      omega
  have := this l []
  simpa [spansF] using this
theorem spansF_spLen (l : List Spn) : spLen (spansF l) = spLen l := by
  have : ∀ (l acc : List Spn), spLen (l.foldl addS acc) = spLen acc + spLen l := fun l => by
    induction l with
    | nil => intro acc; simp [spLen]
    | cons x r ih =>
      intro acc
      have h2 := (addS_len acc x).1
      rw [List.foldl_cons, ih, h2]
      simp [spLen]; omega
  have := this l []
  simpa [spansF, spLen] using this
theorem flat_len {ds : List Deed} (h : Fine ds) : (flatOf ds).length ≤ ds.length := by
  unfold flatOf
  rw [List.length_map]
  exact Nat.le_trans shownL_len h.olen
theorem spans_len {ds : List Deed} (h : Fine ds) : (spansOf ds).length ≤ ds.length := Nat.le_trans (spansF_len _) (flat_len h)
theorem okT_sp (n : Nat) (x : Spn) : okT (n + 2) (dSp x) = true := by
  obtain ⟨a, b, o⟩ := x
  cases o <;> simp [dSp, dOS, okT]
theorem okT_sps (n : Nat) (l : List Spn) (h : l.length ≤ 100000) : okT (n + 3) (.tuple (l.map dSp)) = true := by
  simp only [okT, Bool.and_eq_true, List.all_eq_true, decide_eq_true_eq]
  refine ⟨fun x hx => ?_, by simpa using h⟩
  obtain ⟨s, _, rfl⟩ := List.mem_map.mp hx
  exact okT_sp n s
theorem okT_O (n : Nat) (a : Option Stm) : okT (n + 2) (dO a) = true := by cases a <;> simp [dO, okT, okT_S]
theorem okT_OS (n : Nat) (a : Option Str) : okT (n + 1) (dOS a) = true := by cases a <;> simp [dOS, okT]
theorem IsV.okT {k : Str} {v : D} (h : IsV k v) (n : Nat) : okT (n + 1) v = true := by
  rcases h with ⟨_, b, rfl⟩ | ⟨_, o, rfl⟩
  · simp [Hm.okT]
  · exact okT_OS n o
theorem IsV.okD {k : Str} {v : D} (h : IsV k v) (n : Nat) : okD n v = true := by
  rcases h with ⟨_, b, rfl⟩ | ⟨_, o, rfl⟩
  · simp
  · exact okD_OS n o
/-- a deed whose value is one -/
def VOk : Deed → Prop
  | .mark _ k _ _ v => IsV k v
  | _ => True
theorem Fine.vok {ds : List Deed} (h : Fine ds) : ∀ d ∈ ds, VOk d := fun d hd => by
  cases d with
  | mark s k f e v => exact (h.mrk s k f e v hd).2.2.2
  | _ => trivial
theorem okT_D (n : Nat) {d : Deed} (h : VOk d) : okT (n + 3) (dD d) = true := by
  cases d with
  | mark s k f e v => simp [dD, okT, okT_S, okT_O, IsV.okT h]
  | _ => simp [dD, okT, okT_S, okT_O]
theorem okT_Ds (n : Nat) (l : List Deed) (hv : ∀ d ∈ l, VOk d) (h : l.length ≤ 100000) : okT (n + 4) (.tuple (l.map dD)) = true := by
  simp only [okT, Bool.and_eq_true, List.all_eq_true, decide_eq_true_eq]
  refine ⟨fun x hx => ?_, by simpa using h⟩
  obtain ⟨s, hs, rfl⟩ := List.mem_map.mp hx
  exact okT_D n (hv s hs)
theorem okD_D' (n : Nat) {d : Deed} (h : VOk d) : okD (n + 2) (dD d) = true := by
  cases d with
  | mark s k f e v => simp [dD, okD, okD_S, okD_O, IsV.okD h]
  | _ => simp [dD, okD, okD_S, okD_O]
theorem dOS_inj {a b : Option Str} (h : dOS a = dOS b) : a = b := by cases a <;> cases b <;> first | rfl | (cases h; rfl) | cases h
theorem dSp_inj {a b : Spn} (h : dSp a = dSp b) : a = b := by
  obtain ⟨a1, a2, a3⟩ := a
  obtain ⟨b1, b2, b3⟩ := b
  simp only [dSp, PyData.tuple.injEq, List.cons.injEq, PyData.str.injEq, PyData.bool.injEq, and_true] at h
  obtain ⟨rfl, rfl, h3⟩ := h
  rw [dOS_inj h3]
/-- equal tuples of things that are told apart -/
theorem eqvAll_enc {A : Type} [DecidableEq A] (enc : A → D) (he : ∀ a b, PyData.eqv (enc a) (enc b) = decide (a = b)) : ∀ xs ys : List A, PyData.eqvAll (xs.map enc) (ys.map enc) = decide (xs = ys)
  | [], [] => rfl
  | [], y :: r => rfl
  | x :: r, [] => rfl
  | x :: r, y :: q => by
    rw [List.map_cons, List.map_cons, PyData.eqvAll, he, eqvAll_enc enc he r q]
    by_cases e1 : x = y
    · by_cases e2 : r = q
      · simp [e1, e2]
      · simp [e1, e2]
    · simp [e1]
theorem eqv_sp (x y : Spn) : PyData.eqv (dSp x) (dSp y) = decide (x = y) := by
  obtain ⟨a1, a2, a3⟩ := x
  obtain ⟨b1, b2, b3⟩ := y
  show (PyData.eqv (.str a1) (.str b1) && PyData.eqvAll [.bool a2, dOS a3] [.bool b2, dOS b3]) = _
  have := eqv_vals a2 b2 a3 b3
  rw [PyData.eqv] at this
  rw [this, eqvS]
  by_cases e1 : a1 = b1
  · by_cases e2 : (a2, a3) = (b2, b3)
    · rw [Prod.mk.injEq] at e2; simp [e1, e2.1, e2.2]
    · have : ¬ (a1, a2, a3) = (b1, b2, b3) := fun z => e2 (by rw [Prod.mk.injEq] at z; exact z.2)
      rw [decide_eq_false e2, decide_eq_false this, Bool.and_false]
  · have : ¬ (a1, a2, a3) = (b1, b2, b3) := fun z => e1 (by rw [Prod.mk.injEq] at z; exact z.1)
    rw [decide_eq_false e1, decide_eq_false this, Bool.false_and]
theorem okD_sp (n : Nat) (x : Spn) : okD (n + 1) (dSp x) = true := by obtain ⟨a, b, o⟩ := x; simp [dSp, okD, okD_OS]
theorem okD_sps (n : Nat) (l : List Spn) : (l.map dSp).all (okD (n + 1)) = true := by
  rw [List.all_eq_true]
  intro x hx
  obtain ⟨s, _, rfl⟩ := List.mem_map.mp hx
  exact okD_sp n s
theorem eqD_spT (a b : List Spn) : eqD (.tuple (a.map dSp)) (.tuple (b.map dSp)) = some (.bool (decide (a = b))) := by
  unfold eqD
  have h1 : okD 32 (.tuple (a.map dSp)) = true := okD_sps 30 a
  have h2 : okD 32 (.tuple (b.map dSp)) = true := okD_sps 30 b
  rw [h1, h2, PyData.eqv, eqvAll_enc dSp eqv_sp]
  rfl
theorem neD_spT (a b : List Spn) : neD (.tuple (a.map dSp)) (.tuple (b.map dSp)) = some (.bool (!decide (a = b))) := by
  unfold neD
  have h1 : okD 32 (.tuple (a.map dSp)) = true := okD_sps 30 a
  have h2 : okD 32 (.tuple (b.map dSp)) = true := okD_sps 30 b
  rw [h1, h2, PyData.eqv, eqvAll_enc dSp eqv_sp]
  rfl
theorem neD_str (x y : Str) : neD (.str x) (.str y) = some (.bool (!decide (x = y))) := by
  unfold neD
  rw [eqvS]
  rfl
/-- the start of a turn: a row of deeds -/
theorem draw_row (c : Int) (m : Int) (hm : 0 < m) (hm2 : m ≤ 100) : ∃ ds : List Deed, Fn.F__law_deeds [.int c, .int (mix c 9833 m)] = .ok (.tuple (ds.map dD)) ∧ Row ds ∧ ds.length < m.toNat := by
  have hr := mix_range c 9833 m hm
  obtain ⟨n, hn⟩ : ∃ n : Nat, mix c 9833 m = n := ⟨(mix c 9833 m).toNat, by omega⟩
  obtain ⟨ds, hd, hR, hlen⟩ := F_deeds c n (by omega)
  exact ⟨ds, by rw [hn]; exact hd, hR, by omega⟩
theorem fine_nil : Fine [] := Row.nil.fine
theorem order_nil : orderOf [] = [] := List.eq_nil_of_length_eq_zero (Nat.le_zero.mp (order_len fine_nil.wr))
theorem shown_nil : shownL [] = [] := by unfold shownL; rw [order_nil]; rfl
theorem flat_nil : flatOf [] = [] := by unfold flatOf; rw [shown_nil]; rfl
theorem spans_nil : spansOf [] = [] := by unfold spansOf; rw [flat_nil]; rfl
theorem text_nil : textOf [] = "" := by unfold textOf; rw [shown_nil]; decide +kernel
theorem mul3 (k : Nat) : mulD (.int 3) (.int k) = some (.int (3 * k)) := mulD_sm' _ _ (by decide)
end Hm
/-! Pu13: deeds told apart; dicts of deeds, sorted; parts of rows; joined, unknown -/
namespace Hm
open PySem PySem.SeqAt L2
/-! ### equal deeds -/
theorem eqvAll_cons (x y : D) (xs ys : List D) : PyData.eqvAll (x :: xs) (y :: ys) = (PyData.eqv x y && PyData.eqvAll xs ys) := by rw [PyData.eqvAll]
theorem eqv_tup (xs ys : List D) : PyData.eqv (.tuple xs) (.tuple ys) = PyData.eqvAll xs ys := by rw [PyData.eqv]
theorem eqv_dOS (o p : Option Str) : PyData.eqv (dOS o) (dOS p) = decide (o = p) := by
  cases o with
  | none => cases p <;> rfl
  | some x => cases p with
    | none => rfl
    | some y => show PyData.eqv (.str x) (.str y) = _; rw [eqvS]; simp
theorem eqv_V {k : Str} {v u : D} (h : IsV k v) (h2 : IsV k u) : PyData.eqv v u = true ↔ v = u := by
  have hbl : ¬ (("bold" : Str) = "link") := by decide +kernel
  rcases h with ⟨e1, b, rfl⟩ | ⟨e1, o, rfl⟩ <;> rcases h2 with ⟨e2, c, rfl⟩ | ⟨e2, p, rfl⟩
  · cases b <;> cases c <;> simp [PyData.eqv]
  · exact absurd (e1.symm.trans e2) hbl
  · exact absurd (e2.symm.trans e1) hbl
  · rw [eqv_dOS, decide_eq_true_eq]
    exact ⟨fun e => by rw [e], dOS_inj⟩
theorem dS_inj {s t : Stm} (h : dS s = dS t) : s = t := by
  obtain ⟨s1, s2⟩ := s
  obtain ⟨t1, t2⟩ := t
  simp only [dS, PyData.tuple.injEq, List.cons.injEq, PyData.int.injEq, PyData.str.injEq, and_true] at h
  rw [h.1, h.2]
theorem eqv_D {a b : Deed} (ha : VOk a) (hb : VOk b) : PyData.eqv (dD a) (dD b) = true ↔ a = b := by
  cases a with
  | write s x c => cases b with
    | write t y d =>
      simp only [dD, eqv_tup, eqvAll_cons, eqvS, eqv_S, eqv_O, PyData.eqvAll, Bool.and_eq_true, decide_eq_true_eq, Deed.write.injEq, and_true, true_and]
    | _ => simp [dD, eqv_tup, eqvAll_cons, eqvS]
  | cut s x => cases b with
    | cut t y =>
      simp only [dD, eqv_tup, eqvAll_cons, eqvS, eqv_S, PyData.eqvAll, Bool.and_eq_true, decide_eq_true_eq, Deed.cut.injEq, and_true, true_and]
    | _ => simp [dD, eqv_tup, eqvAll_cons, eqvS]
  | off s x => cases b with
    | off t y =>
      simp only [dD, eqv_tup, eqvAll_cons, eqvS, eqv_S, PyData.eqvAll, Bool.and_eq_true, decide_eq_true_eq, Deed.off.injEq, and_true, true_and]
    | _ => simp [dD, eqv_tup, eqvAll_cons, eqvS]
  | on s x => cases b with
    | on t y =>
      simp only [dD, eqv_tup, eqvAll_cons, eqvS, eqv_S, PyData.eqvAll, Bool.and_eq_true, decide_eq_true_eq, Deed.on.injEq, and_true, true_and]
    | _ => simp [dD, eqv_tup, eqvAll_cons, eqvS]
  | mark s k f e v => cases b with
    | mark t k' f' e' v' =>
      simp only [dD, eqv_tup, eqvAll_cons, eqvS, eqv_S, eqv_O, PyData.eqvAll, Bool.and_eq_true, decide_eq_true_eq, Deed.mark.injEq, and_true, true_and]
      constructor
      · rintro ⟨h1, h2, h3, h4, h5⟩
        subst h2
        exact ⟨h1, rfl, h3, h4, (eqv_V ha hb).mp h5⟩
      · rintro ⟨h1, h2, h3, h4, h5⟩
        subst h2
        exact ⟨h1, rfl, h3, h4, (eqv_V ha hb).mpr h5⟩
    | _ => simp [dD, eqv_tup, eqvAll_cons, eqvS]
theorem okD_Ds (l : List Deed) (h : ∀ d ∈ l, VOk d) (n : Nat) : (l.map dD).all (okD (n + 2)) = true := by
  rw [List.all_eq_true]
  intro x hx
  obtain ⟨d, hd, rfl⟩ := List.mem_map.mp hx
  exact okD_D' n (h d hd)
theorem in_deeds {d : Deed} {l : List Deed} (hd : VOk d) (hl : ∀ e ∈ l, VOk e) : ∃ b : Bool, inB (dD d) (.tuple (l.map dD)) = some b ∧ (b = true ↔ d ∈ l) := by
  refine ⟨(l.map dD).any fun y => PyData.eqv y (dD d), ?_, ?_⟩
  · show (if okD 32 (dD d) && (l.map dD).all (okD 32) then some ((l.map dD).any fun y => PyData.eqv y (dD d)) else none) = _
    rw [okD_D' 30 hd, okD_Ds l hl 30]
    rfl
  · rw [List.any_map, List.any_eq_true]
    constructor
    · rintro ⟨e, he, h2⟩
      have := (eqv_D (hl e he) hd).mp h2
      exact this ▸ he
    · intro h
      exact ⟨d, h, (eqv_D hd hd).mpr rfl⟩
/-! ### the keys of a dict of stamps -/
def addK (ks : List Stm) (t : Stm) : List Stm := if t ∈ ks then ks else ks ++ [t]
def keysOf (l : List Stm) : List Stm := l.foldl addK []
theorem addK_nodup {ks : List Stm} {t : Stm} (h : ks.Nodup) : (addK ks t).Nodup := by
  unfold addK
  split
  · exact h
  · rename_i hn
    rw [List.nodup_append]
    exact ⟨h, by simp, fun a ha b hb e => by simp at hb; subst hb; subst e; exact hn ha⟩
theorem addK_mem {ks : List Stm} {t s : Stm} : s ∈ addK ks t ↔ s ∈ ks ∨ s = t := by
  unfold addK
  split
  · rename_i h
    constructor
    · exact .inl
    · rintro (h' | rfl)
      · exact h'
      · exact h
  · simp
theorem foldK {l : List Stm} : ∀ {ks : List Stm}, ks.Nodup → (l.foldl addK ks).Nodup ∧ ∀ s, s ∈ l.foldl addK ks ↔ s ∈ ks ∨ s ∈ l := by
  induction l with
  | nil => intro ks h; exact ⟨h, fun s => by simp⟩
  | cons t r ih =>
    intro ks h
    obtain ⟨h1, h2⟩ := ih (addK_nodup (t := t) h)
    refine ⟨h1, fun s => ?_⟩
    rw [List.foldl_cons, h2, addK_mem, List.mem_cons, or_assoc]
theorem keysOf_nodup (l : List Stm) : (keysOf l).Nodup := (foldK (l := l) List.nodup_nil).1
theorem keysOf_mem {l : List Stm} {s : Stm} : s ∈ keysOf l ↔ s ∈ l := by
  have := (foldK (l := l) (ks := []) List.nodup_nil).2 s
  simpa [keysOf] using this
theorem dPut_keys {kvs : List (D × D)} {ks : List Stm} (h : kvs.map (·.1) = ks.map dS) (t : Stm) (v : D) : (dPut kvs (dS t) v).map (·.1) = (addK ks t).map dS := by
  have hany : (kvs.any fun p => decide (keyOf p.1 = keyOf (dS t))) = decide (t ∈ ks) := by
    have e : (kvs.any fun p => decide (keyOf p.1 = keyOf (dS t))) = (kvs.map (·.1)).any fun x => decide (keyOf x = keyOf (dS t)) := by rw [List.any_map]; rfl
    rw [e, h, List.any_map]
    by_cases ht : t ∈ ks
    · rw [decide_eq_true ht, List.any_eq_true]
      exact ⟨t, ht, by simp⟩
    · rw [decide_eq_false ht, List.any_eq_false]
      intro s hs
      simp only [Function.comp, keyOf_S, Option.some.injEq, decide_eq_true_eq]
      intro z
      exact ht (Option.some.inj (kO_inj z) ▸ hs)
  unfold dPut addK
  rw [hany]
  by_cases ht : t ∈ ks
  · rw [decide_eq_true ht, if_pos rfl, if_pos ht, List.map_map, ← h]
    apply List.map_congr_left
    intro p _
    simp only [Function.comp]
    split <;> rfl
  · rw [decide_eq_false ht, if_neg (by simp), if_neg ht, List.map_append, h, List.map_append]
    rfl
theorem putAll_keys {A : Type} (key : A → Stm) (q : A → D) : ∀ (xs : List A) (kvs : List (D × D)) (ks : List Stm), kvs.map (·.1) = ks.map dS → (putAll kvs (xs.map fun a => (dS (key a), q a))).map (·.1) = ((xs.map key).foldl addK ks).map dS
  | [], kvs, ks, h => h
  | a :: r, kvs, ks, h => by
    show (putAll (dPut kvs (dS (key a)) (q a)) (r.map fun a => (dS (key a), q a))).map (·.1) = _
    rw [putAll_keys key q r _ _ (dPut_keys h (key a) (q a))]
    rfl
/-! ### sorted -/
theorem leS_trans (a b c : Stm) (h1 : leS a b = true) (h2 : leS b c = true) : leS a c = true := by
  unfold leS at *
  cases hc : ltS c a with
  | false => rfl
  | true =>
    exfalso
    simp only [Bool.not_eq_true'] at h1 h2
    by_cases e : b = c
    · subst e; rw [hc] at h1; cases h1
    · have h3 := ltS_total (fun z => e z.symm) h2
      have := ltS_trans h3 hc
      rw [this] at h1; cases h1
theorem leS_total (a b : Stm) : (leS a b || leS b a) = true := by
  unfold leS
  cases h : ltS b a with
  | false => rfl
  | true => rw [ltS_asymm h]; rfl
theorem leS_anti {a b : Stm} (h1 : leS a b = true) (h2 : leS b a = true) : a = b := by
  unfold leS at *
  simp only [Bool.not_eq_true'] at h1 h2
  by_cases e : a = b
  · exact e
  · have := ltS_total e h2
    rw [this] at h1; cases h1
/-- a rising list is what its things give, sorted -/
theorem sort_rise {ks J : List Stm} (hn : ks.Nodup) (hJ : J.Pairwise fun s t => ltS s t = true) (hm : ∀ s, s ∈ ks ↔ s ∈ J) : ks.mergeSort leS = J := by
  have hJn : J.Nodup := List.Pairwise.imp (fun {s t} h => ltS_ne h) hJ
  refine List.Perm.eq_of_pairwise (le := fun a b => leS a b = true) (fun a b _ _ h1 h2 => leS_anti h1 h2) (List.pairwise_mergeSort leS_trans leS_total ks) (List.Pairwise.imp (fun {s t} h => ?_) hJ) ?_
  · unfold leS; rw [ltS_asymm h]; rfl
  · exact (List.mergeSort_perm ks leS).trans ((List.perm_ext_iff_of_nodup hn hJn).mpr hm)
theorem sortS_map (ks : List Stm) : sortS (ks.map dS) = (ks.mergeSort leS).map dS := by
  unfold sortS
  rw [List.map_mergeSort]
  intro s _ t _
  rfl
theorem sortedD_dict {kvs : List (D × D)} {ks J : List Stm} (h : kvs.map (·.1) = ks.map dS) (hn : ks.Nodup) (hJ : J.Pairwise fun s t => ltS s t = true) (hm : ∀ s, s ∈ ks ↔ s ∈ J) (hl : ks.length ≤ 100000) : sortedD (.dict kvs) = some (.list (J.map dS)) := by
  show (if (kvs.map (·.1)).all isSt && fits kvs.length then some (PyData.list (sortS (kvs.map (·.1)))) else none) = _
  have hlen : kvs.length = ks.length := by have := congrArg List.length h; simpa using this
  rw [hlen, h, allSt, fits_of (by omega), sortS_map, sort_rise hn hJ hm]
  rfl
/-! ### dicts of deeds -/
def deedsD (l : List Deed) : List (D × D) := putAll [] (l.map fun d => (dS d.st, dD d))
/-- those with the same stamps are the same -/
def Same1 (l : List Deed) : Prop := ∀ a ∈ l, ∀ b ∈ l, a.st = b.st → a = b
theorem deedsD_keys (l : List Deed) : (deedsD l).map (·.1) = (keysOf (l.map Deed.st)).map dS := putAll_keys Deed.st dD l [] [] rfl
theorem look_deed {l : List Deed} (h : Same1 l) {d : Deed} (hd : d ∈ l) : dLook (deedsD l) (kO (some d.st)) = some (dD d) := by
  unfold deedsD
  rw [look_all (fun d : Deed => dS d.st) dD (fun d => kO (some d.st)) (fun d => keyOf_S d.st)]
  cases hf : l.reverse.find? fun a => decide (kO (some a.st) = kO (some d.st)) with
  | none =>
    have := List.find?_eq_none.mp hf d (List.mem_reverse.mpr hd)
    simp at this
  | some e =>
    have h1 := List.find?_some hf
    have h2 := List.mem_reverse.mp (List.mem_of_find?_eq_some hf)
    simp only [decide_eq_true_eq] at h1
    have := h e h2 d hd (Option.some.inj (kO_inj h1))
    rw [this]; rfl
theorem Rise.same {l : List Deed} (h : Rise l) : Same1 l := fun a ha b hb e => by
  induction l with
  | nil => simp at ha
  | cons x r ih =>
    have no : ∀ y ∈ r, ¬ x.st = y.st := fun y hy z => by
      have := List.rel_of_pairwise_cons h hy
      rw [z, ltS_irrefl] at this; cases this
    rcases List.mem_cons.mp ha with e1 | ha'
    · rcases List.mem_cons.mp hb with e2 | hb'
      · rw [e1, e2]
      · rw [e1] at e; exact absurd e (no b hb')
    · rcases List.mem_cons.mp hb with e2 | hb'
      · rw [e2] at e; exact absurd e.symm (no a ha')
      · exact ih (List.Pairwise.of_cons h) ha' hb'
theorem Rise.stamps {l : List Deed} (h : Rise l) : (l.map Deed.st).Pairwise fun s t => ltS s t = true := List.pairwise_map.mpr h
/-- two rising rows with the same deeds are one -/
theorem Rise.ext {a b : List Deed} (ha : Rise a) (hb : Rise b) (h : ∀ d, d ∈ a ↔ d ∈ b) : a = b := by
  have nd : ∀ {l : List Deed}, Rise l → l.Nodup := fun hl => List.Pairwise.imp (fun {x y} h e => by subst e; rw [ltS_irrefl] at h; cases h) hl
  have hp : a.Perm b := (List.perm_ext_iff_of_nodup (nd ha) (nd hb)).mpr h
  refine List.Perm.eq_of_pairwise (le := fun x y : Deed => ltS x.st y.st = true) (fun x y _ _ h1 h2 => ?_) ha hb hp
  have := ltS_trans h1 h2
  rw [ltS_irrefl] at this; cases this
theorem F_joined {one other J : List Deed} (h1 : one.length + other.length ≤ 10000) (hs : Same1 (one ++ other)) (hJ : Rise J) (hm : ∀ d, d ∈ J ↔ d ∈ one ∨ d ∈ other) : Fn.F_joined [.tuple (one.map dD), .tuple (other.map dD)] = .ok (.tuple (J.map dD)) := by
  unfold Fn.F_joined
  rw [fnD_2 3]
  have f2 : fits 2 = true := rfl
  have ha : addD (.tuple (one.map dD)) (.tuple (other.map dD)) = some (.tuple ((one ++ other).map dD)) := by
    rw [addD_t _ _ (fits_of (by simp; omega)), List.map_append]
  have e1 : Fn.c2_joined [.dat (.tuple (one.map dD)), .dat (.tuple (other.map dD)), .no, .no, .no] = .ok (.list ((one ++ other).map fun d => .tuple [dS d.st, dD d])) := by
    unfold Fn.c2_joined
    refine fLc_all dD (fun d => .tuple [dS d.st, dD d]) (one ++ other) (by simp; omega) (by simp [ha, itemsOf]) fun d hd => ⟨_, rfl, ?_⟩
    simp [wipeS, f2]
  have e2 : dictD (.list ((one ++ other).map fun d => .tuple [dS d.st, dD d])) = some (.dict (deedsD (one ++ other))) := dictD_map (fun d : Deed => dS d.st) dD (fun d => kO (some d.st)) (fun d => keyOf_S d.st) _ (by simp; omega)
  have hmem : ∀ s, s ∈ keysOf ((one ++ other).map Deed.st) ↔ s ∈ J.map Deed.st := fun s => by
    rw [keysOf_mem, List.mem_map, List.mem_map]
    constructor
    · rintro ⟨d, hd, rfl⟩
      exact ⟨d, (hm d).mpr (List.mem_append.mp hd), rfl⟩
    · rintro ⟨d, hd, rfl⟩
      exact ⟨d, List.mem_append.mpr ((hm d).mp hd), rfl⟩
  have hkl : (keysOf ((one ++ other).map Deed.st)).length ≤ 100000 := by
    have := nodup_len (keysOf_nodup ((one ++ other).map Deed.st)) (fun x hx => keysOf_mem.mp hx)
    rw [List.length_map, List.length_append] at this; omega
  have e3 : sortedD (.dict (deedsD (one ++ other))) = some (.list ((J.map Deed.st).map dS)) := sortedD_dict (deedsD_keys _) (keysOf_nodup _) hJ.stamps hmem hkl
  have hJl : J.length ≤ 100000 := by
    have hn : (J.map Deed.st).Nodup := List.Pairwise.imp (fun {s t} h => ltS_ne h) hJ.stamps
    have := nodup_len hn (fun x hx => (hmem x).mpr hx)
    rw [List.length_map] at this; omega
  have e4 : Fn.c1_joined [.dat (.tuple (one.map dD)), .dat (.tuple (other.map dD)), .dat (.dict (deedsD (one ++ other))), .no, .no] = .ok (.list (J.map dD)) := by
    unfold Fn.c1_joined
    refine fLc_all (fun d : Deed => dS d.st) dD J (by omega) (by simp [e3, itemsOf]) fun d hd => ⟨_, rfl, ?_⟩
    simp [wipeS, ixD_dict, look_deed hs (List.mem_append.mpr ((hm d).mp hd))]
  simp only [Fn.g_joined, List.replicate, gSeq_e, gSet_e, fCall_e, fCons_e, e1, fNil_e, Rs.ok_bind, g1_e, e2, Rs.of_some, So.of_ok, then_nx, List.set_cons_succ, List.set_cons_zero, gRet_e, e4, tupleD_l, fin_rt]
theorem F_unknown {one other : List Deed} (h1 : one.length ≤ 10000) (h2 : other.length ≤ 10000) : Fn.F_unknown [.tuple (one.map dD), .tuple (other.map dD)] = .ok (.tuple ((other.filter fun d => !decide (d.st ∈ one.map Deed.st)).map dD)) := by
  unfold Fn.F_unknown
  rw [fnD_2 2]
  have f2 : fits 2 = true := rfl
  have e1 : Fn.c2_unknown [.dat (.tuple (one.map dD)), .dat (.tuple (other.map dD)), .no, .no] = .ok (.list (one.map fun d => .tuple [dS d.st, .bool true])) := by
    unfold Fn.c2_unknown
    refine fLc_all dD (fun d => .tuple [dS d.st, .bool true]) one (by omega) (by simp [itemsOf]) fun d hd => ⟨_, rfl, ?_⟩
    simp [wipeS, f2]
  have e2 : dictD (.list (one.map fun d => .tuple [dS d.st, .bool true])) = some (.dict (putAll [] (one.map fun d => (dS d.st, .bool true)))) := dictD_map (fun d : Deed => dS d.st) (fun _ => .bool true) (fun d => kO (some d.st)) (fun d => keyOf_S d.st) _ (by omega)
  have hin : ∀ d : Deed, notInD (dS d.st) (.dict (putAll [] (one.map fun d => (dS d.st, .bool true)))) = some (.bool (!decide (d.st ∈ one.map Deed.st))) := fun d => by
    show ((keyOf (dS d.st)).map fun n => dHas _ n).map _ = _
    rw [keyOf_S]
    show some (PyData.bool (!dHas _ (kO (some d.st)))) = _
    rw [dHas_look, look_all (fun d : Deed => dS d.st) (fun _ => .bool true) (fun d => kO (some d.st)) (fun d => keyOf_S d.st)]
    have : (((one.reverse.find? fun a => decide (kO (some a.st) = kO (some d.st))).map fun _ => PyData.bool true).or (dLook [] (kO (some d.st)))).isSome = decide (d.st ∈ one.map Deed.st) := by
      by_cases hm : d.st ∈ one.map Deed.st
      · obtain ⟨e, he, h3⟩ := List.mem_map.mp hm
        rw [decide_eq_true hm]
        have : (one.reverse.find? fun a => decide (kO (some a.st) = kO (some d.st))).isSome = true := by
          rw [List.isSome_find?, List.any_eq_true]
          exact ⟨e, List.mem_reverse.mpr he, by simp [h3]⟩
        obtain ⟨z, hz⟩ := Option.isSome_iff_exists.mp this
        rw [hz]; rfl
      · rw [decide_eq_false hm]
        have : (one.reverse.find? fun a => decide (kO (some a.st) = kO (some d.st))) = none := by
          rw [List.find?_eq_none]
          intro e he z
          simp only [decide_eq_true_eq] at z
          exact hm (List.mem_map.mpr ⟨e, List.mem_reverse.mp he, Option.some.inj (kO_inj z)⟩)
        rw [this]; rfl
    rw [this]
  have e4 : Fn.c1_unknown [.dat (.tuple (one.map dD)), .dat (.tuple (other.map dD)), .dat (.dict (putAll [] (one.map fun d => (dS d.st, .bool true)))), .no] = .ok (.list ((other.filter fun d => !decide (d.st ∈ one.map Deed.st)).map dD)) := by
    unfold Fn.c1_unknown
    refine fLc_map dD (fun d => !decide (d.st ∈ one.map Deed.st)) dD other (by omega) (by simp [itemsOf]) fun d hd => ⟨_, rfl, ?_, fun _ => by simp [wipeS]⟩
    simp only [wipeS, List.set_cons_succ, List.set_cons_zero, bOf_e, fOp_e, fVar_s, fVar_0, Rs.ok_bind, fC_e, ixD_dD1, Rs.of_some, hin, blOf_bool]
  simp only [Fn.g_unknown, List.replicate, gSeq_e, gSet_e, fCall_e, fCons_e, e1, fNil_e, Rs.ok_bind, g1_e, e2, Rs.of_some, So.of_ok, then_nx, List.set_cons_succ, List.set_cons_zero, gRet_e, e4, tupleD_l, fin_rt]
theorem F_by (ds : List Deed) (x : Str) (hl : ds.length ≤ 10000) : Fn.F_by [.tuple (ds.map dD), .str x] = .ok (.tuple ((ds.filter fun d => decide (d.st.2 = x)).map dD)) := by
  unfold Fn.F_by
  rw [fnD_2 1]
  have e1 : Fn.c1_by [.dat (.tuple (ds.map dD)), .dat (.str x), .no] = .ok (.list ((ds.filter fun d => decide (d.st.2 = x)).map dD)) := by
    unfold Fn.c1_by
    refine fLc_map dD (fun d => decide (d.st.2 = x)) dD ds (by omega) (by simp [itemsOf]) fun d hd => ⟨_, rfl, ?_, fun _ => by simp [wipeS]⟩
    simp [wipeS, eqD_str]
  simp [Fn.g_by, List.replicate, e1]
/-! ### parts of a row -/
/-- the letters of which a deed speaks -/
def refsOf : Deed → List Stm
  | .write _ a _ => a.toList
  | .cut _ g => [g]
  | .mark _ _ f e _ => f :: e.toList
  | .off _ g => [g]
  | .on _ g => [g]
def needsOf : Deed → List Stm
  | .write _ a _ => a.toList
  | .mark _ _ f e _ => f :: e.toList
  | _ => []
theorem fine_part {ds es : List Deed} (h : Fine ds) (hs : ∀ d ∈ es, d ∈ ds) (hr : Rise es) (hc : ∀ d ∈ es, ∀ t ∈ needsOf d, t ∈ es.map Deed.st) : Fine es := by
  have low : ∀ t, t ∈ es.map Deed.st → t ∈ letS ds → t ∈ letS es := fun t ht htl => by
    obtain ⟨d, hd, rfl⟩ := List.mem_map.mp ht
    obtain ⟨a, c, hm⟩ := letS_mem.mp htl
    have e := h.rise.same d (hs d hd) _ hm rfl
    rw [e] at hd
    exact letS_mem.mpr ⟨a, c, hd⟩
  refine ⟨hr, ⟨?_, fun s t c hm => h.wr.up s t c (hs _ hm)⟩, fun s t c hm => low t (hc _ hm t (by simp [needsOf])) (h.cl s t c (hs _ hm)), fun s a c hm => h.one s a c (hs _ hm), fun s k f e v hm => ?_⟩
  · exact List.Pairwise.imp (fun {s t} hst => ltS_ne hst) (Row.letS_lt hr)
  · obtain ⟨h1, h2, h3, h4⟩ := h.mrk s k f e v (hs _ hm)
    refine ⟨low f (hc _ hm f (by simp [needsOf])) h1, fun t ht => low t (hc _ hm t (by simp [needsOf, ht])) (h2 t ht), h3, h4⟩
end Hm
/-! Pu14: papers -/
namespace Hm
open PySem PySem.SeqAt L2
@[simp] theorem fZipM_e (f g : Fe) (δ : Dl) : fZipM f g δ = (f δ >>= fun d => g δ >>= fun d' => Rs.of (zipMD d d')) := rfl
/-! ### later marks -/
def laterL (ds : List Deed) (k : Str) (m : Option Stm) : List Deed := (ds.filter (isMk k)).filter fun d => gtO m d.st
theorem laterL_sub {ds : List Deed} {k : Str} {m : Option Stm} {d : Deed} (h : d ∈ laterL ds k m) : d ∈ ds ∧ isMk k d = true ∧ gtO m d.st = true := by
  have h1 := List.mem_filter.mp h
  have h2 := List.mem_filter.mp h1.1
  exact ⟨h2.1, h2.2, h1.2⟩
theorem laterL_len (ds : List Deed) (k : Str) (m : Option Stm) : (laterL ds k m).length ≤ ds.length := Nat.le_trans (filter_len _ _) (filter_len _ _)
theorem laterL_rise {ds : List Deed} (h : Rise ds) (k : Str) (m : Option Stm) : Rise (laterL ds k m) := List.Pairwise.filter _ (List.Pairwise.filter _ h)
theorem gtD_S (s t : Stm) : gtD (dS s) (dS t) = some (.bool (ltS t s)) := rfl
theorem F_later {ds : List Deed} (h : Rise ds) (hl : ds.length ≤ 100000) (k : Str) (m : Option Stm) : Fn.F_later_marks [.tuple (ds.map dD), .str k, dO m] = .ok (.list ((laterL ds k m).map fun d => dS d.st)) := by
  unfold Fn.F_later_marks
  rw [fnD_3 1]
  have hml := marksL_len ds k
  have e1 : Fn.c1_later_marks [.dat (.tuple (ds.map dD)), .dat (.str k), .dat (dO m), .no] = .ok (.list (((marksL ds k).filter fun d => gtO m d.st).map fun d => dS d.st)) := by
    unfold Fn.c1_later_marks
    refine fLc_map dD (fun d => gtO m d.st) (fun d => dS d.st) (marksL ds k) (by omega) (by simp [F_marks ds k hl, itemsOf]) fun d hd => ⟨_, rfl, ?_, fun _ => by simp [wipeS]⟩
    cases m with
    | none => simp [wipeS, dO, isD, isNon, gtO]
    | some t => simp [wipeS, dO, isD_S, gtD_S, gtO]
  have e2 : ((marksL ds k).filter fun d => gtO m d.st) = (laterL ds k m).reverse := by
    unfold marksL laterL
    rw [List.filter_reverse]
  have hst := (laterL_rise h k m).stamps
  have e3 : sortedD (.list (((laterL ds k m).reverse).map fun d => dS d.st)) = some (.list ((laterL ds k m).map fun d => dS d.st)) := by
    have em : (((laterL ds k m).reverse).map fun d => dS d.st) = (((laterL ds k m).map Deed.st).reverse).map dS := by rw [List.map_reverse, List.map_reverse, List.map_map]; rfl
    rw [em]
    show (if ((((laterL ds k m).map Deed.st).reverse).map dS).all isSt && fits ((((laterL ds k m).map Deed.st).reverse).map dS).length then some (PyData.list (sortS ((((laterL ds k m).map Deed.st).reverse).map dS))) else none) = _
    have hll := laterL_len ds k m
    rw [allSt, fits_of (by simp; omega), sortS_map]
    have hs : (((laterL ds k m).map Deed.st).reverse).mergeSort leS = (laterL ds k m).map Deed.st := by
      refine sort_rise ?_ hst fun s => List.mem_reverse
      exact (List.reverse_perm _).nodup_iff.mpr (List.Pairwise.imp (fun {s t} h => ltS_ne h) hst)
    rw [hs, List.map_map]
    rfl
  simp only [Fn.g_later_marks, List.replicate, gRet_e, fCall_e, fCons_e, e1, e2, fNil_e, Rs.ok_bind, g1_e, e3, Rs.of_some, So.of_ok, fin_rt]
/-! ### the paper -/
def whyW (ds : List Deed) (d : Deed) : Str := if countsB ds d.st = true then "apart" else "off"
def rowD (ds : List Deed) (d : Deed) : D := .tuple [dS d.st, .str (whyW ds d)]
def paperD (ds : List Deed) (k : Str) (s : Stm) : D := .tuple [dO ((tellOf ds k s).map Deed.st), .tuple ((laterL ds k ((tellOf ds k s).map Deed.st)).map (rowD ds))]
theorem paper_loop {ds : List Deed} (hl : ds.length ≤ 100000) (x1 x2 x3 : Sl) : ∀ (L : List Deed) (acc : List D) (x5 : Sl), acc.length + L.length ≤ 100000 → ∃ y5, forS (ftN 5) Fn.b1_paper (L.map fun d => dS d.st) [.dat (.tuple (ds.map dD)), x1, x2, x3, .own (.list acc), x5] = .nx [.dat (.tuple (ds.map dD)), x1, x2, x3, .own (.list (acc ++ L.map (rowD ds))), y5]
  | [], acc, x5, _ => ⟨x5, by simp⟩
  | d :: r, acc, x5, h => by
    simp only [List.length_cons] at h
    obtain ⟨y5, hy⟩ := paper_loop hl x1 x2 x3 r (acc ++ [rowD ds d]) (.dat (dS d.st)) (by simp; omega)
    refine ⟨y5, ?_⟩
    have f2 : fits 2 = true := rfl
    have fa : fits (acc.length + 1) = true := fits_of (by omega)
    have e : Fn.b1_paper [.dat (.tuple (ds.map dD)), x1, x2, x3, .own (.list acc), .dat (dS d.st)] = .nx [.dat (.tuple (ds.map dD)), x1, x2, x3, .own (.list (acc ++ [rowD ds d])), .dat (dS d.st)] := by
      have ei : fIf (bTr (fCallF Fn.F_counts (fCons (fVar 0) (fCons (fVar 5) fNil)))) (fC (.str "apart")) (fC (.str "off")) [.dat (.tuple (ds.map dD)), x1, x2, x3, .own (.list acc), .dat (dS d.st)] = .ok (.str (whyW ds d)) := by
        unfold whyW
        cases hc : countsB ds d.st with
        | true => simp [F_counts ds d.st hl, hc]
        | false => simp [F_counts ds d.st hl, hc]
      simp only [Fn.b1_paper, gApp, List.getElem?_cons_succ, List.getElem?_cons_zero, fTup_e, fCons_e, fVar_s, fVar_0, ei, fNil_e, Rs.ok_bind, List.length_cons, List.length_nil, Nat.zero_add, Nat.reduceAdd, f2, need_true, So.of_ok, fa, if_true, List.set_cons_succ, List.set_cons_zero, rowD]
    rw [List.map_cons, forS_cons]
    simp only [ftN_e, List.set_cons_succ, List.set_cons_zero]
    rw [e, turnS_nx, hy]
    simp
theorem F_paper {ds : List Deed} (h : Fine ds) (hl : ds.length ≤ 1500) {s : Stm} (hs : s ∈ letS ds) (k : Str) : Fn.F_paper [.tuple (ds.map dD), dS s, .str k] = .ok (paperD ds k s) := by
  unfold Fn.F_paper
  rw [fnD_3 3]
  have f0 : fits 0 = true := rfl
  have f2 : fits 2 = true := rfl
  have hll := laterL_len ds k ((tellOf ds k s).map Deed.st)
  obtain ⟨y5, hy⟩ := paper_loop (ds := ds) (by omega) (.dat (dS s)) (.dat (.str k)) (.dat (dO ((tellOf ds k s).map Deed.st))) (laterL ds k ((tellOf ds k s).map Deed.st)) [] .no (by simp; omega)
  simp only [Fn.g_paper, List.replicate, gSeq_e, gSet_e, fCallF_e, fCons_e, fVar_s, fVar_0, fNil_e, Rs.ok_bind, F_teller h hl hs k, noX_ok_e, So.of_ok, then_nx, List.set_cons_succ, List.set_cons_zero, gOwn_e, fLst_e, List.length_nil, f0, need_true, isCont, if_true, gFor_e, fIt_e, F_later h.rise (by omega) k, itemsOf, Rs.of_some, hy, gRet_e, fTup_e, fCall_e, fSn_s, fSn_0o, g1_e, tupleD_l, List.length_cons, Nat.zero_add, Nat.reduceAdd, f2, List.nil_append, fin_rt, paperD]
/-! ### whether a thing is one -/
mutual
def noTrue : D → Bool
  | .none => true
  | .bool b => !b
  | .int _ => true
  | .str _ => true
  | .tuple xs => noTrues xs
  | .list xs => noTrues xs
  | .dict _ => false
def noTrues : List D → Bool
  | [] => true
  | x :: xs => noTrue x && noTrues xs
end
theorem eqv_str_iff {x : Str} {y : D} : PyData.eqv y (.str x) = true ↔ y = .str x := by
  constructor
  · intro h
    cases y with
    | str z => rw [eqvS] at h; rw [of_decide_eq_true h]
    | _ => simp [PyData.eqv] at h
  · rintro rfl; rw [eqvS]; simp
theorem eqv_str_iff' {x : Str} {y : D} : PyData.eqv (.str x) y = true ↔ y = .str x := by
  constructor
  · intro h
    cases y with
    | str z => rw [eqvS] at h; rw [of_decide_eq_true h]
    | _ => simp [PyData.eqv] at h
  · rintro rfl; rw [eqvS]; simp
theorem eqv_S_iff {s : Stm} (hs : 0 < s.1) {m : D} (hm : noTrue m = true) : PyData.eqv (dS s) m = true ↔ m = dS s := by
  constructor
  · intro h
    cases m with
    | tuple xs =>
      have h1 : PyData.eqvAll [.int s.1, .str s.2] xs = true := h
      match xs, h1, hm with
      | [], h1, _ => cases h1
      | [x], h1, _ => rw [eqvAll_cons, PyData.eqvAll] at h1; simp at h1
      | [x, y], h1, hm =>
        rw [eqvAll_cons, eqvAll_cons, Bool.and_eq_true, Bool.and_eq_true] at h1
        have hy := eqv_str_iff'.mp h1.2.1
        have hx : x = .int s.1 := by
          have h2 := h1.1
          cases x with
          | int i =>
            have : (s.1 == i) = true := h2
            rw [eq_of_beq this]
          | bool b =>
            exfalso
            have hb : b = false := by
              have : noTrues [.bool b, y] = true := hm
              simp only [noTrues, noTrue, Bool.and_eq_true, Bool.not_eq_true'] at this
              exact this.1
            subst hb
            have : (s.1 == 0) = true := h2
            have := eq_of_beq this
            omega
          | _ => simp [PyData.eqv] at h2
        rw [hx, hy]; rfl
      | x :: y :: z :: r, h1, _ => rw [eqvAll_cons, eqvAll_cons, PyData.eqvAll] at h1; simp at h1
    | _ => simp [dS, PyData.eqv] at h
  · rintro rfl; rw [eqv_S]; simp
theorem eqv_comm_S {s : Stm} (hs : 0 < s.1) {m : D} (hm : noTrue m = true) : PyData.eqv m (dS s) = true ↔ m = dS s := by
  constructor
  · intro h
    cases m with
    | tuple xs =>
      have h1 : PyData.eqvAll xs [.int s.1, .str s.2] = true := by
        have : PyData.eqv (.tuple xs) (.tuple [.int s.1, .str s.2]) = true := h
        rwa [eqv_tup] at this
      match xs, h1, hm with
      | [], h1, _ => cases h1
      | [x], h1, _ => rw [eqvAll_cons, PyData.eqvAll] at h1; simp at h1
      | [x, y], h1, hm =>
        rw [eqvAll_cons, eqvAll_cons, Bool.and_eq_true, Bool.and_eq_true] at h1
        have hy := eqv_str_iff.mp h1.2.1
        have hx : x = .int s.1 := by
          have h2 := h1.1
          cases x with
          | int i =>
            have : (i == s.1) = true := h2
            rw [eq_of_beq this]
          | bool b =>
            exfalso
            have hb : b = false := by
              have : noTrues [.bool b, y] = true := hm
              simp only [noTrues, noTrue, Bool.and_eq_true, Bool.not_eq_true'] at this
              exact this.1
            subst hb
            have : ((0 : Int) == s.1) = true := h2
            have := eq_of_beq this
            omega
          | _ => simp [PyData.eqv] at h2
        rw [hx, hy]; rfl
      | x :: y :: z :: r, h1, _ => rw [eqvAll_cons, eqvAll_cons, PyData.eqvAll] at h1; simp at h1
    | _ => simp [dS, PyData.eqv] at h
  · rintro rfl; rw [eqv_S]; simp
theorem noTrues_mem {xs : List D} (h : noTrues xs = true) : ∀ x ∈ xs, noTrue x = true := by
  induction xs with
  | nil => intro x hx; simp at hx
  | cons y r ih =>
    simp only [noTrues, Bool.and_eq_true] at h
    intro x hx
    rcases List.mem_cons.mp hx with rfl | hx
    · exact h.1
    · exact ih h.2 x hx
def dStr : D → Option Str
  | .str x => some x
  | _ => none
def whyOk (o a c v : Bool) : Bool := if o = true then !c else a && !v
/-- a row that says rightly why d does not tell -/
def rowOk (ds : List Deed) (row : List Stm) (s : Stm) (d : Deed) : D → Bool
  | .tuple [x, y] => PyData.eqv x (dS d.st) && whyOk (decide (dStr y = some ("off" : Str))) (decide (dStr y = some ("apart" : Str))) (countsB ds d.st) (covB row s d)
  | _ => false
def rowsOk (ds : List Deed) (row : List Stm) (s : Stm) : List Deed → List D → Bool
  | [], [] => true
  | d :: r, x :: xs => rowOk ds row s d x && rowsOk ds row s r xs
  | _, _ => false
theorem eqD_dStr {y : D} (hy : okD 31 y = true) (x : Str) : eqD y (.str x) = some (.bool (decide (dStr y = some x))) := by
  unfold eqD
  rw [okD_mono 31 32 (by omega) y hy, okD_str]
  congr 2
  by_cases h : y = .str x
  · subst h; rw [eqvS]; simp [dStr]
  · have h1 : PyData.eqv y (.str x) = false := by
      cases hq : PyData.eqv y (.str x) with
      | false => rfl
      | true => exact absurd (eqv_str_iff.mp hq) h
    have h2 : ¬ dStr y = some x := by
      cases y with
      | str z => simp only [dStr, Option.some.injEq]; intro e; exact h (by rw [e])
      | _ => simp [dStr]
    simp [h1, h2]
theorem isi_tup {d : D} (h : okD 31 d = true) : isiB .tuple d = some (match d with | .tuple _ => true | _ => false) := by
  cases d with
  | dict kvs => rw [okD_dic] at h; cases h
  | _ => rfl
theorem F_isrow {ds : List Deed} (h : Fine ds) (hl : ds.length ≤ 1500) {s : Stm} (hs : s ∈ letS ds) {d : Deed} (hd : d ∈ ds) (hm : isMark d = true) {r : D} (hr : okD 30 r = true) : Fn.F_is_row [.tuple (ds.map dD), dS s, dS d.st, r] = .ok (.bool (rowOk ds (orderOf ds) s d r)) := by
  unfold Fn.F_is_row
  rw [fnD_4 0]
  simp only [List.replicate]
  have hc := F_counts ds d.st (by omega)
  have hv := F_covers h hl hd hm hs
  have hr' := okD_mono 30 31 (by omega) r hr
  cases r with
  | tuple xs =>
    match xs, hr with
    | [x, y], hr =>
      have hr2 : [x, y].all (okD 29) = true := hr
      simp only [List.all_cons, List.all_nil, Bool.and_true, Bool.and_eq_true] at hr2
      have hne : neD x (dS d.st) = some (.bool (!PyData.eqv x (dS d.st))) := by
        unfold neD
        rw [okD_mono 29 32 (by omega) x hr2.1, okD_S]
        rfl
      have hlen : neD (.int (2 : Nat)) (.int 2) = some (.bool false) := rfl
      have hy1 := eqD_dStr (okD_mono 29 31 (by omega) y hr2.2) "off"
      have hy2 := eqD_dStr (okD_mono 29 31 (by omega) y hr2.2) "apart"
      have ix0 : ixD (.tuple [x, y]) (.int 0) = some x := by simp
      have ix1 : ixD (.tuple [x, y]) (.int 1) = some y := by simp
      have hlen2 : lenD (.tuple [x, y]) = some (.int (2 : Nat)) := rfl
      have hcond : (bOr (bNot (bTr (fIsi .tuple (fVar 3)))) (bOr (bOf (fOp neD (fCall (g1 lenD) (fCons (fVar 3) fNil)) (fC (.int 2)))) (bOf (fOp neD (fOp ixD (fVar 3) (fC (.int 0))) (fVar 2))))) [.dat (.tuple (ds.map dD)), .dat (dS s), .dat (dS d.st), .dat (.tuple [x, y])] = .ok (!PyData.eqv x (dS d.st)) := by
        simp only [bOr_e, bNot_e, bTr_e, fIsi_e, fVar_s, fVar_0, Rs.ok_bind, isiB, Rs.of_some, truD_bool, Bool.not_true, Bool.false_eq_true, if_false, bOf_e, fOp_e, fCall_e, fCons_e, fNil_e, g1_e, hlen2, fC_e, hlen, blOf_bool, ix0, hne]
      cases he : PyData.eqv x (dS d.st) with
      | false =>
        rw [he] at hcond
        simp only [Fn.g_is_row, gSeq_e, gIf_t _ _ _ _ hcond, gRet_e, fC_e, So.of_ok, then_rt, fin_rt, rowOk, he, Bool.false_and]
      | true =>
        rw [he] at hcond
        have hc2 : (bOf (fOp eqD (fOp ixD (fVar 3) (fC (.int 1))) (fC (.str "off")))) [.dat (.tuple (ds.map dD)), .dat (dS s), .dat (dS d.st), .dat (.tuple [x, y])] = .ok (decide (dStr y = some ("off" : Str))) := by
          simp only [bOf_e, fOp_e, fVar_s, fVar_0, fC_e, Rs.ok_bind, ix1, Rs.of_some, hy1, blOf_bool]
        simp only [rowOk, he, Bool.true_and]
        generalize decide (dStr y = some ("off" : Str)) = bo at hc2 hy1 ⊢
        generalize decide (dStr y = some ("apart" : Str)) = ba at hy2 ⊢
        cases bo with
        | true =>
          simp only [Fn.g_is_row, gSeq_e, gIf_f _ _ _ _ hcond, gNx_e, then_nx, gIf_t _ _ _ _ hc2, gRet_e, vB_e, bNot_e, bTr_e, fCallF_e, fCons_e, fVar_s, fVar_0, fNil_e, Rs.ok_bind, hc, noX_ok_e, truD_bool, Rs.of_some, So.of_ok, then_rt, fin_rt, whyOk, if_true]
        | false =>
          simp only [Fn.g_is_row, gSeq_e, gIf_f _ _ _ _ hcond, gNx_e, then_nx, gIf_f _ _ _ _ hc2, gRet_e, vB_e, bAnd_e, bOf_e, fOp_e, fVar_s, fVar_0, fC_e, Rs.ok_bind, ix1, hy2, Rs.of_some, blOf_bool, bNot_e, bTr_e, fCallF_e, fCons_e, fNil_e, hv, noX_ok_e, truD_bool, whyOk]
          cases ba <;> rfl
    | [], hr => simp [Fn.g_is_row, isiB, rowOk, show neD (.int 0) (.int 2) = some (.bool true) from rfl]
    | [x], hr => simp [Fn.g_is_row, isiB, rowOk, show neD (.int 1) (.int 2) = some (.bool true) from rfl]
    | x :: y :: z :: q, hr =>
      have hl3 : neD (.int ((q.length + 1 + 1 + 1 : Nat))) (.int 2) = some (.bool true) := by
        unfold neD
        have : PyData.eqv (.int ((q.length + 1 + 1 + 1 : Nat))) (.int 2) = false := by
          show (((q.length + 1 + 1 + 1 : Nat) : Int) == 2) = false
          simp; omega
        rw [this]; rfl
      have hlen3 : lenD (.tuple (x :: y :: z :: q)) = some (.int ((q.length + 1 + 1 + 1 : Nat))) := rfl
      have hcond : (bOr (bNot (bTr (fIsi .tuple (fVar 3)))) (bOr (bOf (fOp neD (fCall (g1 lenD) (fCons (fVar 3) fNil)) (fC (.int 2)))) (bOf (fOp neD (fOp ixD (fVar 3) (fC (.int 0))) (fVar 2))))) [.dat (.tuple (ds.map dD)), .dat (dS s), .dat (dS d.st), .dat (.tuple (x :: y :: z :: q))] = .ok true := by
        simp only [bOr_e, bNot_e, bTr_e, fIsi_e, fVar_s, fVar_0, Rs.ok_bind, isiB, Rs.of_some, truD_bool, Bool.not_true, Bool.false_eq_true, if_false, bOf_e, fOp_e, fCall_e, fCons_e, fNil_e, g1_e, hlen3, fC_e, hl3, blOf_bool, if_true]
      simp only [Fn.g_is_row, gSeq_e, gIf_t _ _ _ _ hcond, gRet_e, fC_e, So.of_ok, then_rt, fin_rt, rowOk]
  | dict kvs => rw [okD_dic] at hr; cases hr
  | _ => simp [Fn.g_is_row, isiB, rowOk]
theorem rowsOk_len {ds : List Deed} {row : List Stm} {s : Stm} : ∀ {L : List Deed} {rows : List D}, rowsOk ds row s L rows = true → L.length = rows.length
  | [], [], _ => rfl
  | d :: r, x :: xs, h => by
    simp only [rowsOk, Bool.and_eq_true] at h
    simp [rowsOk_len h.2]
  | [], _ :: _, h => by cases h
  | _ :: _, [], h => by cases h
theorem rowsOk_zip {ds : List Deed} {row : List Stm} {s : Stm} : ∀ {L : List Deed} {rows : List D}, L.length = rows.length → rowsOk ds row s L rows = (L.zip rows).all fun p => rowOk ds row s p.1 p.2
  | [], [], _ => rfl
  | d :: r, x :: xs, h => by
    simp only [rowsOk, List.zip_cons_cons, List.all_cons]
    rw [rowsOk_zip (by simpa using h)]
  | [], _ :: _, h => by simp at h
  | _ :: _, [], h => by simp at h
theorem zipL_map {A : Type} (enc : A → D) : ∀ (L : List A) (rows : List D), zipL (L.map enc) rows = (L.zip rows).map fun p => .tuple [enc p.1, p.2]
  | [], _ => by simp [zipL]
  | _ :: _, [] => by simp [zipL]
  | a :: r, x :: xs => by simp [zipL, zipL_map enc r xs]
theorem allD_map {A : Type} (p : A → Bool) (xs : List A) : allD (.list (xs.map fun a => .bool (p a))) = some (.bool (xs.all p)) := by
  show (blsOf _).map _ = _
  rw [blsOf_map]
  simp
theorem isp_fin {ds : List Deed} (h : Fine ds) (hl : ds.length ≤ 1500) {s : Stm} (hs : s ∈ letS ds) (k : Str) (mo : Option Stm) (rows : List D) (hr : rows.all (okD 30) = true) (x3 x6 x7 x8 x9 x10 : Sl) (hrl : rows.length ≤ 100000) :
    So.fin ((gSeq (gSet 8 (fCallF Fn.F_later_marks (fCons (fVar 0) (fCons (fVar 2) (fCons (fVar 4) fNil))))) (gRet (vB (bAnd (bOf (fOp eqD (fCall (g1 lenD) (fCons (fVar 5) fNil)) (fCall (g1 lenD) (fCons (fVar 8) fNil)))) (bOf (fCall (g1 allD) (fCons Fn.c1_is_paper fNil)))))))
      [.dat (.tuple (ds.map dD)), .dat (dS s), .dat (.str k), x3, .dat (dO mo), .dat (.tuple rows), x6, x7, x8, x9, x10]) = .ok (.bool (rowsOk ds (orderOf ds) s (laterL ds k mo) rows)) := by
  rw [List.all_eq_true] at hr
  have hll := laterL_len ds k mo
  have hlen : eqD (.int (rows.length : Nat)) (.int ((laterL ds k mo).length : Nat)) = some (.bool (decide (rows.length = (laterL ds k mo).length))) := by
    rw [eqD_int]
    congr 2
    by_cases e : rows.length = (laterL ds k mo).length
    · simp [e]
    · have : ¬ ((rows.length : Nat) : Int) = ((laterL ds k mo).length : Nat) := by omega
      simp [e, this]
  by_cases e : rows.length = (laterL ds k mo).length
  · have c1 : Fn.c1_is_paper [.dat (.tuple (ds.map dD)), .dat (dS s), .dat (.str k), x3, .dat (dO mo), .dat (.tuple rows), x6, x7, .dat (.list ((laterL ds k mo).map fun d => dS d.st)), x9, x10] = .ok (.list (((laterL ds k mo).zip rows).map fun p => .bool (rowOk ds (orderOf ds) s p.1 p.2))) := by
      unfold Fn.c1_is_paper
      have hz : zipMD (.list ((laterL ds k mo).map fun d => dS d.st)) (.tuple rows) = some (((laterL ds k mo).zip rows).map fun p => .tuple [dS p.1.st, p.2]) := by
        show some (zipL _ _) = _
        rw [zipL_map (fun d : Deed => dS d.st)]
      refine fLc_all (fun p : Deed × D => .tuple [dS p.1.st, p.2]) (fun p => .bool (rowOk ds (orderOf ds) s p.1 p.2)) ((laterL ds k mo).zip rows) (by rw [List.length_zip]; omega) (by simp only [fZipM_e, fVar_s, fVar_0, Rs.ok_bind, hz, Rs.of_some]) fun p hp => ⟨[.dat (.tuple (ds.map dD)), .dat (dS s), .dat (.str k), x3, .dat (dO mo), .dat (.tuple rows), x6, x7, .dat (.list ((laterL ds k mo).map fun d => dS d.st)), .dat (dS p.1.st), .dat p.2], rfl, ?_⟩
      have hp' := List.of_mem_zip (show (p.1, p.2) ∈ (laterL ds k mo).zip rows from hp)
      have hd := laterL_sub hp'.1
      simp only [fCallF_e, fCons_e, fVar_s, fVar_0, fNil_e, Rs.ok_bind, F_isrow h hl hs hd.1 (isMk_mark hd.2.1) (hr _ hp'.2), noX_ok_e]
    rw [rowsOk_zip e.symm]
    rw [decide_eq_true e] at hlen
    simp only [gSeq_e, gSet_e, fCallF_e, fCons_e, fVar_s, fVar_0, fNil_e, Rs.ok_bind, F_later h.rise (by omega) k mo, noX_ok_e, So.of_ok, then_nx, List.set_cons_succ, List.set_cons_zero, gRet_e, vB_e, bAnd_e, bOf_e, fOp_e, fCall_e, g1_e, lenD_t, lenD_l, Rs.of_some, List.length_map, hlen, blOf_bool, if_true, c1, allD_map, fin_rt]
  · have hf : rowsOk ds (orderOf ds) s (laterL ds k mo) rows = false := by
      cases hq : rowsOk ds (orderOf ds) s (laterL ds k mo) rows with
      | false => rfl
      | true => exact absurd (rowsOk_len hq).symm e
    rw [decide_eq_false e] at hlen
    rw [hf]
    simp only [gSeq_e, gSet_e, fCallF_e, fCons_e, fVar_s, fVar_0, fNil_e, Rs.ok_bind, F_later h.rise (by omega) k mo, noX_ok_e, So.of_ok, then_nx, List.set_cons_succ, List.set_cons_zero, gRet_e, vB_e, bAnd_e, bOf_e, fOp_e, fCall_e, g1_e, lenD_t, lenD_l, Rs.of_some, List.length_map, hlen, blOf_bool, Bool.false_eq_true, if_false, fin_rt]
def mineOf (ds : List Deed) (k : Str) (m : D) : Option Deed := (marksL ds k).find? fun d => PyData.eqv (dS d.st) m
def isPaperB (ds : List Deed) (k : Str) (s : Stm) : D → Bool
  | .tuple [.none, .tuple rows] => rowsOk ds (orderOf ds) s (laterL ds k none) rows
  | .tuple [m, .tuple rows] => (match mineOf ds k m with
    | none => false
    | some d => countsB ds d.st && (covB (orderOf ds) s d && rowsOk ds (orderOf ds) s (laterL ds k (some d.st)) rows))
  | _ => false
theorem isPaperB_m {ds : List Deed} {k : Str} {s : Stm} {m : D} {rows : List D} (h : m ≠ .none) : isPaperB ds k s (.tuple [m, .tuple rows]) = (match mineOf ds k m with
    | none => false
    | some d => countsB ds d.st && (covB (orderOf ds) s d && rowsOk ds (orderOf ds) s (laterL ds k (some d.st)) rows)) := by
  cases m <;> first | rfl | exact absurd rfl h
theorem ispaper_pair {ds : List Deed} (h : Fine ds) (h0 : ∀ d ∈ ds, 0 < d.st.1) (hl : ds.length ≤ 1500) {s : Stm} (hs : s ∈ letS ds) (k : Str) {m : D} {rows : List D} (hm : okD 31 m = true) (hmt : noTrue m = true) (hr : rows.all (okD 30) = true) (hrl : rows.length ≤ 100000) :
    Fn.F_is_paper [.tuple (ds.map dD), dS s, .str k, .tuple [m, .tuple rows]] = .ok (.bool (isPaperB ds k s (.tuple [m, .tuple rows]))) := by
  unfold Fn.F_is_paper
  rw [fnD_4 7]
  simp only [List.replicate]
  have hlen2 : lenD (.tuple [m, .tuple rows]) = some (.int (2 : Nat)) := rfl
  have hne2 : neD (.int (2 : Nat)) (.int 2) = some (.bool false) := rfl
  have hix : ixD (.tuple [m, .tuple rows]) (.int 1) = some (.tuple rows) := by simp
  have hc1 : (bOr (bNot (bTr (fIsi .tuple (fVar 3)))) (bOr (bOf (fOp neD (fCall (g1 lenD) (fCons (fVar 3) fNil)) (fC (.int 2)))) (bNot (bTr (fIsi .tuple (fOp ixD (fVar 3) (fC (.int 1)))))))) [.dat (.tuple (ds.map dD)), .dat (dS s), .dat (.str k), .dat (.tuple [m, .tuple rows]), .no, .no, .no, .no, .no, .no, .no] = .ok false := by
    simp only [bOr_e, bNot_e, bTr_e, fIsi_e, fVar_s, fVar_0, Rs.ok_bind, isiB, Rs.of_some, truD_bool, Bool.not_true, Bool.false_eq_true, if_false, bOf_e, fOp_e, fCall_e, fCons_e, fNil_e, g1_e, hlen2, fC_e, hne2, blOf_bool, hix]
  have hun : gTupS [4, 5] (fVar 3) [.dat (.tuple (ds.map dD)), .dat (dS s), .dat (.str k), .dat (.tuple [m, .tuple rows]), .no, .no, .no, .no, .no, .no, .no] = .nx [.dat (.tuple (ds.map dD)), .dat (dS s), .dat (.str k), .dat (.tuple [m, .tuple rows]), .dat m, .dat (.tuple rows), .no, .no, .no, .no, .no] := by
    simp [gTupS, ftT, setAll]
  unfold Fn.g_is_paper
  rw [gSeq_e, gIf_f _ _ _ _ hc1, gNx_e, then_nx, gSeq_e, hun, then_nx, gSeq_e]
  by_cases hn : m = .none
  · subst hn
    have hc2 : (bOf (fOp isNotD (fVar 4) (fC .none))) [.dat (.tuple (ds.map dD)), .dat (dS s), .dat (.str k), .dat (.tuple [.none, .tuple rows]), .dat .none, .dat (.tuple rows), .no, .no, .no, .no, .no] = .ok false := by
      simp [isNotD, isNon]
    rw [gIf_f _ _ _ _ hc2, gNx_e, then_nx]
    exact isp_fin h hl hs k none rows hr _ _ _ _ _ _ hrl
  · have hc2 : (bOf (fOp isNotD (fVar 4) (fC .none))) [.dat (.tuple (ds.map dD)), .dat (dS s), .dat (.str k), .dat (.tuple [m, .tuple rows]), .dat m, .dat (.tuple rows), .no, .no, .no, .no, .no] = .ok true := by
      have : isNotD m .none = some (.bool true) := by cases m <;> first | exact absurd rfl hn | rfl
      simp only [bOf_e, fOp_e, fVar_s, fVar_0, fC_e, Rs.ok_bind, this, Rs.of_some, blOf_bool]
    rw [gIf_t _ _ _ _ hc2, isPaperB_m hn]
    have hml := marksL_len ds k
    have c2 : ∀ x6 : Sl, Fn.c2_is_paper [.dat (.tuple (ds.map dD)), .dat (dS s), .dat (.str k), .dat (.tuple [m, .tuple rows]), .dat m, .dat (.tuple rows), x6, .no, .no, .no, .no] = .ok (.list (((marksL ds k).filter fun d => PyData.eqv (dS d.st) m).map dD)) := fun x6 => by
      unfold Fn.c2_is_paper
      refine fLc_map dD (fun d => PyData.eqv (dS d.st) m) dD (marksL ds k) (by omega) (by simp [F_marks ds k (by omega : ds.length ≤ 100000), itemsOf]) fun d hd => ⟨_, rfl, ?_, fun _ => by simp [wipeS]⟩
      have he : eqD (dS d.st) m = some (.bool (PyData.eqv (dS d.st) m)) := by
        unfold eqD
        rw [okD_S, okD_mono 31 32 (by omega) m hm]
        rfl
      simp [wipeS, he]
    rw [gSeq_e, gSet_e, c2, So.of_ok, then_nx]
    simp only [List.set_cons_succ, List.set_cons_zero]
    have hfind : mineOf ds k m = ((marksL ds k).filter fun d => PyData.eqv (dS d.st) m).head? := by
      unfold mineOf
      rw [List.head?_filter]
    rw [hfind]
    cases hf : (marksL ds k).filter fun d => PyData.eqv (dS d.st) m with
    | nil =>
      simp [truD]
    | cons d r =>
      have hmem : d ∈ (marksL ds k).filter fun d => PyData.eqv (dS d.st) m := by rw [hf]; exact List.mem_cons_self
      obtain ⟨hd1, hd2⟩ := List.mem_filter.mp hmem
      obtain ⟨hd3, hd4⟩ := marksL_mem.mp hd1
      have hmd := (eqv_S_iff (h0 d hd3) hmt).mp hd2
      subst hmd
      have hcv := F_covers h hl hd3 (isMk_mark hd4) hs
      have hct := F_counts ds d.st (by omega)
      simp only [List.map_cons, List.head?_cons]
      have hix0 : ixD (.list (dD d :: r.map dD)) (.int 0) = some (dD d) := by simp
      have htr : truD (.list (dD d :: r.map dD)) = some true := rfl
      have hc3 : (bOr (bNot (bTr (fVar 6))) (bOr (bNot (bTr (fCallF Fn.F_counts (fCons (fVar 0) (fCons (fOp ixD (fOp ixD (fVar 6) (fC (.int 0))) (fC (.int 1))) fNil))))) (bNot (bTr (fCallF Fn.F_covers (fCons (fVar 0) (fCons (fOp ixD (fOp ixD (fVar 6) (fC (.int 0))) (fC (.int 1))) (fCons (fVar 1) fNil)))))))) [.dat (.tuple (ds.map dD)), .dat (dS s), .dat (.str k), .dat (.tuple [dS d.st, .tuple rows]), .dat (dS d.st), .dat (.tuple rows), .dat (.list (dD d :: r.map dD)), .no, .no, .no, .no] = .ok (!(countsB ds d.st && covB (orderOf ds) s d)) := by
        simp only [bOr_e, bNot_e, bTr_e, fVar_s, fVar_0, Rs.ok_bind, htr, Rs.of_some, Bool.not_true, Bool.false_eq_true, if_false, fCallF_e, fCons_e, fOp_e, fC_e, hix0, ixD_dD1, fNil_e, hct, hcv, noX_ok_e, truD_bool]
        cases countsB ds d.st <;> cases covB (orderOf ds) s d <;> rfl
      cases hb : (countsB ds d.st && covB (orderOf ds) s d) with
      | true =>
        rw [hb] at hc3
        rw [gIf_f _ _ _ _ hc3, gNx_e, then_nx]
        rw [Bool.and_eq_true] at hb
        rw [hb.1, hb.2, Bool.true_and, Bool.true_and]
        exact isp_fin h hl hs k (some d.st) rows hr _ _ _ _ _ _ hrl
      | false =>
        rw [hb] at hc3
        rw [gIf_t _ _ _ _ hc3]
        rw [← Bool.and_assoc, hb]
        simp
theorem F_ispaper {ds : List Deed} (h : Fine ds) (h0 : ∀ d ∈ ds, 0 < d.st.1) (hl : ds.length ≤ 1500) {s : Stm} (hs : s ∈ letS ds) (k : Str) {thing : D} (ht : okD 32 thing = true) (htt : noTrue thing = true) (hbig : ∀ m rows, thing = .tuple [m, .tuple rows] → rows.length ≤ 100000) :
    Fn.F_is_paper [.tuple (ds.map dD), dS s, .str k, thing] = .ok (.bool (isPaperB ds k s thing)) := by
  have no : ∀ x : D, isiB .tuple x = some false → isPaperB ds k s x = false → Fn.F_is_paper [.tuple (ds.map dD), dS s, .str k, x] = .ok (.bool (isPaperB ds k s x)) := fun x h1 h2 => by
    rw [h2]
    unfold Fn.F_is_paper
    rw [fnD_4 7]
    simp [Fn.g_is_paper, h1]
  have no2 : ∀ xs : List D, xs.length ≠ 2 → Fn.F_is_paper [.tuple (ds.map dD), dS s, .str k, .tuple xs] = .ok (.bool false) := fun xs hx => by
    have hn : neD (.int (xs.length : Nat)) (.int 2) = some (.bool true) := by
      unfold neD
      have : PyData.eqv (.int (xs.length : Nat)) (.int 2) = false := by
        show (((xs.length : Nat) : Int) == 2) = false
        simp; omega
      rw [this]; rfl
    unfold Fn.F_is_paper
    rw [fnD_4 7]
    simp [Fn.g_is_paper, isiB, hn]
  have no3 : ∀ m r : D, isiB .tuple r = some false → Fn.F_is_paper [.tuple (ds.map dD), dS s, .str k, .tuple [m, r]] = .ok (.bool false) := fun m r hr => by
    have hn : neD (.int (2 : Nat)) (.int 2) = some (.bool false) := rfl
    have hlen2 : lenD (.tuple [m, r]) = some (.int (2 : Nat)) := rfl
    have hix : ixD (.tuple [m, r]) (.int 1) = some r := by simp
    have ht : isiB .tuple (.tuple [m, r]) = some true := rfl
    unfold Fn.F_is_paper
    rw [fnD_4 7]
    have hc1 : (bOr (bNot (bTr (fIsi .tuple (fVar 3)))) (bOr (bOf (fOp neD (fCall (g1 lenD) (fCons (fVar 3) fNil)) (fC (.int 2)))) (bNot (bTr (fIsi .tuple (fOp ixD (fVar 3) (fC (.int 1)))))))) [.dat (.tuple (ds.map dD)), .dat (dS s), .dat (.str k), .dat (.tuple [m, r]), .no, .no, .no, .no, .no, .no, .no] = .ok true := by
      simp only [bOr_e, bNot_e, bTr_e, fIsi_e, fVar_s, fVar_0, Rs.ok_bind, ht, Rs.of_some, truD_bool, Bool.not_true, Bool.false_eq_true, if_false, bOf_e, fOp_e, fCall_e, fCons_e, fNil_e, g1_e, hlen2, fC_e, hn, blOf_bool, hix, hr, Bool.not_false]
    simp only [List.replicate, Fn.g_is_paper, gSeq_e, gIf_t _ _ _ _ hc1, gRet_e, fC_e, So.of_ok, then_rt, fin_rt]
  cases thing with
  | tuple xs =>
    match xs, ht, htt with
    | [m, r], ht, htt =>
      have h1 : (okD 31 m && okD 31 r) = true := by simpa using ht
      rw [Bool.and_eq_true] at h1
      cases r with
      | tuple rows =>
        have h2 : rows.all (okD 30) = true := h1.2
        have h3 : noTrue m = true := by
          have : noTrues [m, .tuple rows] = true := htt
          simp only [noTrues, Bool.and_eq_true] at this
          exact this.1
        exact ispaper_pair h h0 hl hs k h1.1 h3 h2 (hbig m rows rfl)
      | dict kvs => have := h1.2; rw [okD_dic] at this; cases this
      | none => rw [no3 m _ rfl]; cases m <;> rfl
      | bool b => rw [no3 m _ rfl]; cases m <;> rfl
      | int b => rw [no3 m _ rfl]; cases m <;> rfl
      | str b => rw [no3 m _ rfl]; cases m <;> rfl
      | list b => rw [no3 m _ rfl]; cases m <;> rfl
    | [], _, _ => exact no2 [] (by simp)
    | [x], _, _ => rw [no2 [x] (by simp)]; cases x <;> rfl
    | x :: y :: z :: q, _, _ => rw [no2 _ (by simp)]; cases x <;> cases y <;> rfl
  | dict kvs => rw [okD_dic] at ht; cases ht
  | _ => exact no _ rfl rfl
end Hm
/-! Pu15: papers are such; rows made longer -/
namespace Hm
open PySem PySem.SeqAt L2
theorem cmarks_down {ds : List Deed} (h : Rise ds) (k : Str) : (cmarks ds k).Pairwise fun a b => ltS b.st a.st = true := by
  unfold cmarks marksL
  refine List.Pairwise.filter _ ?_
  rw [List.pairwise_reverse]
  exact List.Pairwise.filter _ h
/-- no later mark that counts covers the letter -/
theorem later_apart {ds : List Deed} (h : Rise ds) {k : Str} {s : Stm} {d : Deed} (hd : d ∈ laterL ds k ((tellOf ds k s).map Deed.st)) (hc : countsB ds d.st = true) : covB (orderOf ds) s d = false := by
  cases hv : covB (orderOf ds) s d with
  | false => rfl
  | true =>
    exfalso
    obtain ⟨h1, h2, h3⟩ := laterL_sub hd
    have hin : d ∈ cmarks ds k := cmarks_mem.mpr ⟨⟨h1, h2⟩, hc⟩
    cases ht : tellOf ds k s with
    | none =>
      have := List.find?_eq_none.mp ht d hin
      rw [hv] at this; exact this rfl
    | some t =>
      rw [ht] at h3
      have h3 : ltS t.st d.st = true := h3
      obtain ⟨_, as, bs, e, ha⟩ := List.find?_eq_some_iff_append.mp ht
      rw [e] at hin
      have hp := cmarks_down h k
      rw [e] at hp
      rcases List.mem_append.mp hin with hm | hm
      · have := ha d hm; rw [hv] at this; cases this
      · rcases List.mem_cons.mp hm with rfl | hm
        · rw [ltS_irrefl] at h3; cases h3
        · have := List.rel_of_pairwise_cons (List.pairwise_append.mp hp).2.1 hm
          rw [ltS_asymm this] at h3; cases h3
theorem rows_ok {ds : List Deed} (row : List Stm) (s : Stm) : ∀ L : List Deed, (∀ d ∈ L, countsB ds d.st = true → covB row s d = false) → rowsOk ds row s L (L.map (rowD ds)) = true
  | [], _ => rfl
  | d :: r, h => by
    simp only [List.map_cons, rowsOk, Bool.and_eq_true]
    refine ⟨?_, rows_ok row s r fun e he => h e (List.mem_cons_of_mem _ he)⟩
    have hao : ¬ (("apart" : Str) = "off") := by decide +kernel
    have hoa : ¬ (("off" : Str) = "apart") := by decide +kernel
    unfold rowD whyW
    show (PyData.eqv (dS d.st) (dS d.st) && whyOk _ _ _ _) = true
    rw [eqv_S, decide_eq_true rfl, Bool.true_and]
    cases hc : countsB ds d.st with
    | true => simp [dStr, whyOk, hao, h d List.mem_cons_self hc]
    | false => simp [dStr, whyOk]
theorem mine_of {ds : List Deed} (h : Rise ds) {k : Str} {t : Deed} (ht : t ∈ ds) (hk : isMk k t = true) : mineOf ds k (dS t.st) = some t := by
  unfold mineOf
  cases hf : (marksL ds k).find? fun d => PyData.eqv (dS d.st) (dS t.st) with
  | none =>
    have := List.find?_eq_none.mp hf t (marksL_mem.mpr ⟨ht, hk⟩)
    rw [eqv_S] at this; simp at this
  | some d =>
    have h1 := List.find?_some hf
    have h2 := marksL_mem.mp (List.mem_of_find?_eq_some hf)
    rw [eqv_S, decide_eq_true_eq] at h1
    rw [h.same d h2.1 t ht h1]
theorem paper_is {ds : List Deed} (h : Fine ds) (k : Str) (s : Stm) : isPaperB ds k s (paperD ds k s) = true := by
  have hrows := rows_ok (ds := ds) (orderOf ds) s (laterL ds k ((tellOf ds k s).map Deed.st)) fun d hd hc => later_apart h.rise hd hc
  unfold paperD
  cases ht : tellOf ds k s with
  | none => rw [ht] at hrows; exact hrows
  | some t =>
    rw [ht] at hrows
    obtain ⟨h1, h2, h3, h4⟩ := tell_in ht
    show isPaperB ds k s (.tuple [dS t.st, .tuple _]) = true
    rw [isPaperB_m (by simp [dS]), mine_of h.rise h1 h2]
    simp only [h3, h4, Bool.true_and]
    exact hrows
theorem okD_paper (n : Nat) (ds : List Deed) (k : Str) (s : Stm) : okD (n + 4) (paperD ds k s) = true := by
  unfold paperD
  simp only [okD_tup, List.all_cons, List.all_nil, Bool.and_true, Bool.and_eq_true]
  refine ⟨okD_O _ _, ?_⟩
  rw [List.all_eq_true]
  intro x hx
  obtain ⟨d, _, rfl⟩ := List.mem_map.mp hx
  simp [rowD, okD_S]
theorem noTrue_S (s : Stm) : noTrue (dS s) = true := rfl
theorem noTrue_O (s : Option Stm) : noTrue (dO s) = true := by cases s <;> rfl
theorem noTrues_map {A : Type} (f : A → D) (h : ∀ a, noTrue (f a) = true) : ∀ l : List A, noTrues (l.map f) = true
  | [] => rfl
  | a :: r => by rw [List.map_cons, noTrues, h a, noTrues_map f h r]; rfl
theorem noTrue_paper (ds : List Deed) (k : Str) (s : Stm) : noTrue (paperD ds k s) = true := by
  have h2 : noTrues ((laterL ds k ((tellOf ds k s).map Deed.st)).map (rowD ds)) = true := noTrues_map _ (fun _ => rfl) _
  show (noTrue (dO _) && (noTrues _ && true)) = true
  rw [noTrue_O, h2]
  rfl
/-! ### rows made longer: no letters -/
theorem sKids_ext {ds ex : List Deed} (h : ∀ a, kids a ex = []) (a : Option Stm) : sKids (ds ++ ex) a = sKids ds a := by
  unfold sKids
  rw [kids_append, h a, List.append_nil]
theorem dfsF_ext {ds ex : List Deed} (h : ∀ a, kids a ex = []) : ∀ (n : Nat) (a : Option Stm), dfsF (ds ++ ex) n a = dfsF ds n a
  | 0, _ => rfl
  | n + 1, a => by
    unfold dfsF
    rw [sKids_ext h]
    congr 1
    funext c
    rw [dfsF_ext h n]
theorem order_ext {ds ex : List Deed} (w : Wr ds) (h : ∀ a, kids a ex = []) : orderOf (ds ++ ex) = orderOf ds := by
  unfold orderOf
  rw [dfsF_ext h]
  have := above_le ds none
  exact dfsF_enough w _ _ none (by simp; omega) (by omega)
theorem letS_ext {ds ex : List Deed} (h : letS ex = []) : letS (ds ++ ex) = letS ds := by rw [letS_append, h, List.append_nil]
/-! ### a letter more -/
def insA (a : Option Stm) (s : Stm) (l : List Stm) : List Stm := l.flatMap fun x => if some x = a then [x, s] else [x]
theorem insA_cons (a : Option Stm) (s x : Stm) (l : List Stm) : insA a s (x :: l) = x :: ((if some x = a then [s] else []) ++ insA a s l) := by
  unfold insA
  rw [List.flatMap_cons]
  by_cases h : some x = a
  · simp [h]
  · simp [h]
theorem insA_append (a : Option Stm) (s : Stm) (l m : List Stm) : insA a s (l ++ m) = insA a s l ++ insA a s m := by unfold insA; rw [List.flatMap_append]
theorem kids_new {ds : List Deed} {s : Stm} {a : Option Stm} {c : Str} (b : Option Stm) : kids b (ds ++ [.write s a c]) = kids b ds ++ if a = b then [s] else [] := by
  rw [kids_append]
  simp [kids]
theorem sKids_new {ds : List Deed} {s : Stm} {a : Option Stm} {c : Str} (hr : Rise (ds ++ [.write s a c])) (b : Option Stm) : sKids (ds ++ [.write s a c]) b = sKids ds b ++ if a = b then [s] else [] := by
  have h1 : Rise ds := (List.pairwise_append.mp hr).1
  rw [sKids_rise hr, sKids_rise h1, kids_new]
theorem dfsF_none {ds : List Deed} {b : Option Stm} (h : kids b ds = []) : ∀ n, dfsF ds n b = []
  | 0 => rfl
  | n + 1 => by unfold dfsF sKids; rw [h]; simp
theorem dfsF_ins {ds : List Deed} {s : Stm} {a : Option Stm} {c : Str} (hr : Rise (ds ++ [.write s a c])) (w : Wr (ds ++ [.write s a c])) (hno : ∀ t b x, Deed.write t b x ∈ ds → b ≠ some s) (has : a ≠ some s) : ∀ (n : Nat) (b : Option Stm), (above (ds ++ [.write s a c]) b).length < n →
    dfsF (ds ++ [.write s a c]) n b = (if a = b then [s] else []) ++ insA a s (dfsF ds n b)
  | 0, b, h => by omega
  | n + 1, b, h => by
    have hks : kids (some s) (ds ++ [.write s a c]) = [] := by
      rw [kids_new]
      have h1 : kids (some s) ds = [] := by
        cases hk : kids (some s) ds with
        | nil => rfl
        | cons t r =>
          obtain ⟨x, hx⟩ := (kids_mem (some s)).mp (show t ∈ kids (some s) ds by rw [hk]; exact List.mem_cons_self)
          exact absurd rfl (hno t (some s) x hx)
      rw [h1, if_neg has]; rfl
    have ih : ∀ t ∈ sKids ds b, t :: dfsF (ds ++ [.write s a c]) n (some t) = insA a s (t :: dfsF ds n (some t)) := fun t ht => by
      have hk : t ∈ kids b (ds ++ [.write s a c]) := by rw [kids_new]; exact List.mem_append.mpr (.inl (sKids_mem.mp ht))
      have := above_lt w hk
      rw [dfsF_ins hr w hno has n (some t) (by omega), insA_cons]
      by_cases e : a = some t
      · rw [if_pos e, if_pos e.symm]
      · rw [if_neg e, if_neg fun z => e z.symm]
    have hfl : ∀ l : List Stm, (∀ t ∈ l, t ∈ sKids ds b) → (l.flatMap fun t => t :: dfsF (ds ++ [.write s a c]) n (some t)) = insA a s (l.flatMap fun t => t :: dfsF ds n (some t)) := fun l => by
      induction l with
      | nil => intro _; rfl
      | cons t r ihl =>
        intro hl
        rw [List.flatMap_cons, List.flatMap_cons, insA_append, ih t (hl t List.mem_cons_self), ihl fun x hx => hl x (List.mem_cons_of_mem _ hx)]
    unfold dfsF
    rw [sKids_new hr, List.reverse_append, List.flatMap_append, hfl (sKids ds b).reverse fun t ht => List.mem_reverse.mp ht]
    congr 1
    by_cases e : a = b
    · rw [if_pos e]
      simp [dfsF_none hks]
    · rw [if_neg e]; rfl
theorem order_ins {ds : List Deed} {s : Stm} {a : Option Stm} {c : Str} (hr : Rise (ds ++ [.write s a c])) (w : Wr (ds ++ [.write s a c])) (wd : Wr ds) : orderOf (ds ++ [.write s a c]) = (if a = none then [s] else []) ++ insA a s (orderOf ds) := by
  have hlt : ∀ e ∈ ds, ltS e.st s = true := fun e he => (List.pairwise_append.mp hr).2.2 e he (.write s a c) (by simp)
  have hno : ∀ t b x, Deed.write t b x ∈ ds → b ≠ some s := fun t b x hm e => by
    subst e
    have h1 := w.up t s x (List.mem_append.mpr (.inl hm))
    have h2 := hlt _ hm
    have h3 : ltS t s = true := h2
    rw [ltS_asymm h1] at h3; cases h3
  have has : a ≠ some s := fun e => by
    subst e
    have := w.up s s c (by simp)
    rw [ltS_irrefl] at this; cases this
  unfold orderOf
  have hab := above_le (ds ++ [.write s a c]) none
  rw [dfsF_ins hr w hno has _ none (by omega)]
  have hab2 := above_le ds none
  rw [dfsF_enough wd _ (ds.length + 1) none (by simp; omega) (by omega)]
/-! ### what counts, in rows made longer -/
theorem lastB_append (g : Stm) : ∀ (a b : List Deed) (x : Bool), lastB g x (a ++ b) = lastB g (lastB g x a) b
  | [], _, _ => rfl
  | d :: r, b, x => by
    cases d with
    | off s t => simp only [List.cons_append, lastB]; exact lastB_append g r b _
    | on s t => simp only [List.cons_append, lastB]; exact lastB_append g r b _
    | _ => simp only [List.cons_append, lastB]; exact lastB_append g r b x
theorem lastB_skip {g : Stm} : ∀ {a : List Deed} {x : Bool}, (∀ d ∈ a, isCtl g d = false) → lastB g x a = x
  | [], _, _ => rfl
  | d :: r, x, h => by
    have hd := h d List.mem_cons_self
    have hr := fun e he => h e (List.mem_cons_of_mem d he)
    cases d with
    | off s t =>
      have : ¬ t = g := by simpa [isCtl] using hd
      simp only [lastB, this, if_false]; exact lastB_skip hr
    | on s t =>
      have : ¬ t = g := by simpa [isCtl] using hd
      simp only [lastB, this, if_false]; exact lastB_skip hr
    | _ => simp only [lastB]; exact lastB_skip hr
theorem counts_ext {ds ex : List Deed} (h : Rise (ds ++ ex)) {g : Stm} (hx : ∀ d ∈ ex, isCtl g d = false) : countsB (ds ++ ex) g = countsB ds g := by
  rw [counts_last h, counts_last (List.pairwise_append.mp h).1, lastB_append, lastB_skip hx]
/-- what is shown stays, if neither the letter nor its cuts are spoken of, and no cut comes -/
theorem shown_ext {ds ex : List Deed} (h : Rise (ds ++ ex)) {s : Stm} (h1 : ∀ d ∈ ex, isCtl s d = false) (h2 : ∀ d ∈ ex, isCutOf s d = false) (h3 : ∀ c ∈ cutsOf ds s, ∀ d ∈ ex, isCtl c.st d = false) : shownB (ds ++ ex) s = shownB ds s := by
  unfold shownB
  rw [counts_ext h h1]
  have e1 : cutsOf (ds ++ ex) s = cutsOf ds s := by
    unfold cutsOf
    rw [List.filter_append, show ex.filter (isCutOf s) = [] from List.filter_eq_nil_iff.mpr (fun d hd => by simp [h2 d hd]), List.append_nil]
  rw [e1]
  congr 2
  have : ∀ l : List Deed, (∀ c ∈ l, c ∈ cutsOf ds s) → (l.any fun d => countsB (ds ++ ex) d.st) = l.any fun d => countsB ds d.st := fun l => by
    induction l with
    | nil => intro _; rfl
    | cons c r ih =>
      intro hl
      rw [List.any_cons, List.any_cons, counts_ext h (h3 c (hl c List.mem_cons_self)), ih fun x hx => hl x (List.mem_cons_of_mem _ hx)]
  exact this _ fun c hc => hc
/-- the mark that tells: those behind first -/
def tellP (ds : List Deed) (row : List Stm) (k : Str) (s : Stm) (d : Deed) : Bool := isMk k d && (covB row s d && lastB d.st true ds)
theorem tell_eq {ds : List Deed} (h : Rise ds) (k : Str) (s : Stm) : tellOf ds k s = ds.reverse.find? (tellP ds (orderOf ds) k s) := tellOf_eq h k s
theorem find_congr {A : Type} {p q : A → Bool} : ∀ {l : List A}, (∀ a ∈ l, p a = q a) → l.find? p = l.find? q
  | [], _ => rfl
  | a :: r, h => by rw [List.find?_cons, List.find?_cons, h a List.mem_cons_self, find_congr fun b hb => h b (List.mem_cons_of_mem _ hb)]
theorem filter_congr' {A : Type} {p q : A → Bool} : ∀ {l : List A}, (∀ a ∈ l, p a = q a) → l.filter p = l.filter q
  | [], _ => rfl
  | a :: r, h => by rw [List.filter_cons, List.filter_cons, h a List.mem_cons_self, filter_congr' fun b hb => h b (List.mem_cons_of_mem _ hb)]
end Hm
/-! Pu16: one deed more -/
namespace Hm
open PySem PySem.SeqAt L2
def NxF (ds : List Deed) : Deed → Prop
  | .write _ a c => (∀ t, a = some t → t ∈ letS ds) ∧ c.length = 1
  | .mark _ k f e v => f ∈ letS ds ∧ (∀ t, e = some t → t ∈ letS ds) ∧ (e = none → k = "bold") ∧ IsV k v
  | _ => True
theorem Rise.snoc {ds : List Deed} {d : Deed} (h : Rise ds) (hlt : ∀ e ∈ ds, ltS e.st d.st = true) : Rise (ds ++ [d]) := by
  unfold Rise
  rw [List.pairwise_append]
  exact ⟨h, List.pairwise_singleton _ _, fun a ha b hb => by simp at hb; subst hb; exact hlt a ha⟩
theorem mem_snoc {t : Type} {l : List t} {x y : t} : y ∈ l ++ [x] ↔ y ∈ l ∨ y = x := by simp
theorem Fine.snoc {ds : List Deed} {d : Deed} (h : Fine ds) (hlt : ∀ e ∈ ds, ltS e.st d.st = true) (hn : NxF ds d) : Fine (ds ++ [d]) := by
  have up : ∀ t, t ∈ letS ds → t ∈ letS (ds ++ [d]) := fun t ht => by rw [letS_append]; exact List.mem_append.mpr (.inl ht)
  have hr := h.rise.snoc hlt
  refine ⟨hr, ⟨List.Pairwise.imp (fun {s t} hst => ltS_ne hst) (Row.letS_lt hr), fun s t c hm => ?_⟩, fun s t c hm => ?_, fun s a c hm => ?_, fun s k f e v hm => ?_⟩
  · rcases mem_snoc.mp hm with hm | rfl
    · exact h.wr.up s t c hm
    · obtain ⟨a, c', hx⟩ := letS_mem.mp (hn.1 t rfl)
      exact hlt _ hx
  · rcases mem_snoc.mp hm with hm | rfl
    · exact up t (h.cl s t c hm)
    · exact up t (hn.1 t rfl)
  · rcases mem_snoc.mp hm with hm | rfl
    · exact h.one s a c hm
    · exact hn.2
  · rcases mem_snoc.mp hm with hm | rfl
    · obtain ⟨h1, h2, h3, h4⟩ := h.mrk s k f e v hm
      exact ⟨up f h1, fun t ht => up t (h2 t ht), h3, h4⟩
    · exact ⟨up f hn.1, fun t ht => up t (hn.2.1 t ht), hn.2.2⟩
theorem Fine.ofPrefix {ds ex : List Deed} (h : Fine (ds ++ ex)) (hc : ∀ d ∈ ds, ∀ t ∈ needsOf d, t ∈ ds.map Deed.st) : Fine ds := fine_part h (fun d hd => List.mem_append.mpr (.inl hd)) (List.pairwise_append.mp h.rise).1 hc
theorem letOf_ext {ds ex : List Deed} (hn : (letS (ds ++ ex)).Nodup) {s : Stm} (hs : s ∈ letS ds) : letOf (ds ++ ex) s = letOf ds s := by
  obtain ⟨a, c, hm⟩ := letS_mem.mp hs
  have h1 : (letS ds).Nodup := by rw [letS_append] at hn; exact (List.nodup_append.mp hn).1
  rw [letOf_eq hn (List.mem_append.mpr (.inl hm)), letOf_eq h1 hm]
/-- the goal of an off, an on, a cut -/
def goalOf : Deed → Option Stm
  | .cut _ g => some g
  | .off _ g => some g
  | .on _ g => some g
  | _ => none
theorem ctl_goal {g : Stm} {d : Deed} (h : goalOf d ≠ some g) : isCtl g d = false ∧ isCutOf g d = false := by
  cases d with
  | cut s t => exact ⟨rfl, by simpa [isCutOf, goalOf] using h⟩
  | off s t => exact ⟨by simpa [isCtl, goalOf] using h, rfl⟩
  | on s t => exact ⟨by simpa [isCtl, goalOf] using h, rfl⟩
  | _ => exact ⟨rfl, rfl⟩
theorem touch_goal {g : Stm} {d : Deed} (h : goalOf d ≠ some g) : touch g d = false := by
  cases d with
  | cut s t => simpa [touch, goalOf] using h
  | off s t => simpa [touch, goalOf] using h
  | on s t => simpa [touch, goalOf] using h
  | _ => rfl
/-- all stamps, all goals have numbers below n, stamps above 0 -/
structure Low (ds : List Deed) (n : Int) : Prop where
  st : ∀ d ∈ ds, 0 < d.st.1 ∧ d.st.1 < n
  go : ∀ d ∈ ds, ∀ g, goalOf d = some g → g.1 < n
theorem Low.lt {ds : List Deed} {n : Int} (h : Low ds n) {s : Stm} (hs : n ≤ s.1) : ∀ e ∈ ds, ltS e.st s = true := fun e he => by
  rw [ltS_iff]
  exact .inl (by have := (h.st e he).2; omega)
theorem Low.no {ds : List Deed} {n : Int} (h : Low ds n) {s : Stm} (hs : n ≤ s.1) : ∀ d ∈ ds, goalOf d ≠ some s := fun d hd e => by
  have := h.go d hd s e
  omega
theorem Low.let_ {ds : List Deed} {n : Int} (h : Low ds n) {s : Stm} (hs : s ∈ letS ds) : s.1 < n := by
  obtain ⟨a, c, hm⟩ := letS_mem.mp hs
  exact (h.st _ hm).2
theorem Low.mono {ds : List Deed} {n m : Int} (h : Low ds n) (hm : n ≤ m) : Low ds m := ⟨fun d hd => ⟨(h.st d hd).1, by have := (h.st d hd).2; omega⟩, fun d hd g hg => by have := h.go d hd g hg; omega⟩
theorem Low.snoc {ds : List Deed} {n : Int} {d : Deed} (h : Low ds n) (h1 : 0 < d.st.1) (h2 : d.st.1 < n) (h3 : ∀ g, goalOf d = some g → g.1 < n) : Low (ds ++ [d]) n := by
  refine ⟨fun e he => ?_, fun e he g hg => ?_⟩
  · rcases mem_snoc.mp he with he | rfl
    · exact h.st e he
    · exact ⟨h1, h2⟩
  · rcases mem_snoc.mp he with he | rfl
    · exact h.go e he g hg
    · exact h3 g hg
theorem othS_mem {x : List Deed} {s : Stm} (h : s ∈ othS x) : ∃ d ∈ x, d.st = s := by
  induction x with
  | nil => simp [othS] at h
  | cons d r ih =>
    cases d with
    | cut t g =>
      simp only [othS, List.mem_cons] at h
      rcases h with rfl | h
      · exact ⟨_, List.mem_cons_self, rfl⟩
      · obtain ⟨e, he, h2⟩ := ih h; exact ⟨e, List.mem_cons_of_mem _ he, h2⟩
    | mark t k f e v =>
      simp only [othS, List.mem_cons] at h
      rcases h with rfl | h
      · exact ⟨_, List.mem_cons_self, rfl⟩
      · obtain ⟨e, he, h2⟩ := ih h; exact ⟨e, List.mem_cons_of_mem _ he, h2⟩
    | _ =>
      obtain ⟨e, he, h2⟩ := ih (by simpa [othS] using h)
      exact ⟨e, List.mem_cons_of_mem _ he, h2⟩
theorem Row.low {ds : List Deed} (h : Row ds) {n : Int} (hn : ∀ d ∈ ds, d.st.1 < n) : Low ds n := by
  refine ⟨fun d hd => ⟨(h.stok d hd).1, hn d hd⟩, fun d hd g hg => ?_⟩
  obtain ⟨es, h1, h2⟩ := h.nx d hd
  have st : ∀ g, (g ∈ letS es ∨ g ∈ othS es) → g.1 < n := fun g hg => by
    rcases hg with hg | hg
    · obtain ⟨a, c, hm⟩ := letS_mem.mp hg
      exact hn _ (h1 _ hm).1
    · obtain ⟨e, he, rfl⟩ := othS_mem hg
      exact hn _ (h1 _ he).1
  cases d with
  | cut s t => cases hg; exact st g (.inl h2)
  | off s t => cases hg; exact st g h2
  | on s t => cases hg; exact st g h2
  | _ => cases hg
theorem Row.ne {ds : List Deed} (h : Row ds) (hne : ds ≠ []) : letS ds ≠ [] := by
  induction h with
  | nil => exact absurd rfl hne
  | snoc _ _ _ hn ih =>
    rename_i ds d _ _ _
    by_cases he : ds = []
    · subst he
      cases d with
      | write s a c => simp [letS]
      | cut s g => simp [Nx, letS] at hn
      | mark s k f e v => simp [Nx, letS] at hn
      | off s g => simp [Nx, letS, othS] at hn
      | on s g => simp [Nx, letS, othS] at hn
    · rw [letS_append]
      intro z
      exact ih he (List.append_eq_nil_iff.mp z).1
theorem Rise.last_le {ds : List Deed} {l : Deed} (h : Rise (ds ++ [l])) : ∀ d ∈ ds ++ [l], d.st.1 ≤ l.st.1 := fun d hd => by
  rcases mem_snoc.mp hd with hd | rfl
  · have := (List.pairwise_append.mp h).2.2 d hd l (by simp)
    rw [ltS_iff] at this
    omega
  · exact Int.le_refl _
/-- marks, offs and ons put behind, of others: what is shown stays -/
theorem shownL_ext {ds ex : List Deed} (h : Fine ds) (hr : Rise (ds ++ ex)) (hk : ∀ a, kids a ex = []) (hg : ∀ d ∈ ex, ∀ g, goalOf d = some g → ∀ c ∈ ds, c.st ≠ g) : shownL (ds ++ ex) = shownL ds := by
  unfold shownL
  rw [order_ext h.wr hk]
  refine filter_congr' fun s hs => ?_
  obtain ⟨a, x, hm⟩ := letS_mem.mp (h.sub s hs)
  have ne : ∀ d ∈ ex, goalOf d ≠ some s := fun d hd e => hg d hd s e _ hm rfl
  refine shown_ext hr (fun d hd => (ctl_goal (ne d hd)).1) (fun d hd => (ctl_goal (ne d hd)).2) fun c hcu d hd => ?_
  have hcm := List.mem_filter.mp hcu
  exact (ctl_goal fun e => hg d hd c.st e c hcm.1 rfl).1
/-- what a mark of ds tells hangs not on what is put behind, of others -/
theorem tellP_ext {ds ex : List Deed} (hg : ∀ d ∈ ex, ∀ g, goalOf d = some g → ∀ c ∈ ds, c.st ≠ g) (row : List Stm) (k : Str) (s : Stm) : ∀ d ∈ ds, tellP (ds ++ ex) row k s d = tellP ds row k s d := fun d hd => by
  unfold tellP
  rw [lastB_append, lastB_skip fun e he => (ctl_goal fun z => hg e he d.st z d hd rfl).1]
/-! ### values of spans -/
theorem addS_vals {p : Bool × Option Str → Prop} {acc : List Spn} {x : Spn} (h : ∀ y ∈ acc, p y.2) (hx : p x.2) : ∀ y ∈ addS acc x, p y.2 := by
  unfold addS
  split
  · split
    · intro y hy
      rcases mem_snoc.mp hy with hy | rfl
      · exact h y (List.dropLast_subset _ hy)
      · exact hx
    · intro y hy
      rcases mem_snoc.mp hy with hy | rfl
      · exact h y hy
      · exact hx
  · intro y hy
    simp at hy; subst hy; exact hx
theorem spansF_vals {p : Bool × Option Str → Prop} {l : List Spn} (h : ∀ x ∈ l, p x.2) : ∀ y ∈ spansF l, p y.2 := by
  have : ∀ (l acc : List Spn), (∀ x ∈ l, p x.2) → (∀ x ∈ acc, p x.2) → ∀ y ∈ l.foldl addS acc, p y.2 := fun l => by
    induction l with
    | nil => intro acc _ ha; exact ha
    | cons x r ih =>
      intro acc hl ha
      exact ih (addS acc x) (fun y hy => hl y (List.mem_cons_of_mem _ hy)) (addS_vals ha (hl x List.mem_cons_self))
  exact this l [] h fun x hx => by simp at hx
theorem addS_rep (acc : List Spn) (x : Spn) : (addS acc x).flatMap (fun y => List.replicate y.1.length y.2) = acc.flatMap (fun y => List.replicate y.1.length y.2) ++ List.replicate x.1.length x.2 := by
  unfold addS
  rcases List.eq_nil_or_concat acc with rfl | ⟨a, l, rfl⟩
  · simp
  · rw [List.concat_eq_append]
    simp only [List.getLast?_concat]
    split
    · rename_i h
      simp only [List.dropLast_concat, List.flatMap_append, List.flatMap_cons, List.flatMap_nil, List.append_nil, List.append_assoc, app_len]
      rw [← List.replicate_append_replicate, h]
    · simp
theorem spansF_rep (l : List Spn) : (spansF l).flatMap (fun y => List.replicate y.1.length y.2) = l.flatMap (fun y => List.replicate y.1.length y.2) := by
  have : ∀ (l acc : List Spn), (l.foldl addS acc).flatMap (fun y => List.replicate y.1.length y.2) = acc.flatMap (fun y => List.replicate y.1.length y.2) ++ l.flatMap (fun y => List.replicate y.1.length y.2) := fun l => by
    induction l with
    | nil => intro acc; simp
    | cons x r ih => intro acc; rw [List.foldl_cons, ih, addS_rep, List.flatMap_cons, List.append_assoc]
  have := this l []
  simpa [spansF] using this
theorem rep_ones : ∀ l : List Spn, (∀ x ∈ l, x.1.length = 1) → l.flatMap (fun y => List.replicate y.1.length y.2) = l.map (·.2)
  | [], _ => rfl
  | x :: r, h => by
    rw [List.flatMap_cons, h x List.mem_cons_self, rep_ones r fun y hy => h y (List.mem_cons_of_mem _ hy)]
    rfl
theorem flat_ones {ds : List Deed} (h : Fine ds) : ∀ x ∈ flatOf ds, x.1.length = 1 := fun x hx => by
  obtain ⟨s, hs, rfl⟩ := List.mem_map.mp hx
  exact h.let1 (h.shown_let s hs)
theorem spans_rep {ds : List Deed} (h : Fine ds) : (spansOf ds).flatMap (fun y => List.replicate y.1.length y.2) = (flatOf ds).map (·.2) := by
  unfold spansOf
  rw [spansF_rep, rep_ones _ (flat_ones h)]
end Hm
/-! Pu17: the law's own look at papers; odd things -/
namespace Hm
open PySem PySem.SeqAt L2
theorem fnD_5 (n : Nat) (g : Fs) (a b c d e : D) : fnD (n + 5) [.da, .da, .da, .da, .da] g [a, b, c, d, e] = So.fin (g (.dat a :: .dat b :: .dat c :: .dat d :: .dat e :: List.replicate n .no)) := rfl
/-! ### why a mark does not tell -/
def whyL (ds : List Deed) (s : Stm) (d : Deed) : List Str := (if countsB ds d.st = true then [] else [("off" : Str)]) ++ (if covB (orderOf ds) s d = true then [] else [("apart" : Str)])
theorem F_lawwhy {ds : List Deed} (h : Fine ds) (hl : ds.length ≤ 1500) {s : Stm} (hs : s ∈ letS ds) {d : Deed} (hd : d ∈ ds) (hm : isMark d = true) :
    Fn.F__law_why [.tuple (ds.map dD), .list ((orderOf ds).map dS), dS s, dD d] = .ok (.list ((whyL ds s d).map PyData.str)) := by
  unfold Fn.F__law_why
  rw [fnD_4 1]
  have hol := h.olen
  have e1 : Fn.F__law_counts [.tuple (ds.map dD), dS d.st] = .ok (.bool (countsB ds d.st)) := by rw [counts_last h.rise]; exact F_lawcounts ds d.st
  have e2 := F_lawcovers (row := orderOf ds) (by omega) (h.all s hs) (h.mkOk hd hm)
  have ma : ∀ (x : Str) (b : Bool), mulD (.list [.str x]) (.int (if b = true then 1 else 0)) = some (.list (if b = true then [.str x] else [])) := fun x b => by cases b <;> rfl
  have f1 : fits 1 = true := rfl
  simp only [Fn.g__law_why, List.replicate, gSeq_e, gSet_e, fOp_e, fLst_e, fCons_e, fC_e, fNil_e, Rs.ok_bind, List.length_cons, List.length_nil, Nat.zero_add, f1, need_true, fCall_e, vB_e, bNot_e, bTr_e, fCallF_e, fVar_s, fVar_0, ixD_dD1, Rs.of_some, e1, noX_ok_e, truD_bool, g1_e, intD_b, ma, So.of_ok, then_nx, List.set_cons_succ, List.set_cons_zero, gRet_e, e2]
  unfold whyL
  cases countsB ds d.st <;> cases covB (orderOf ds) s d <;> rfl
theorem in_why {ds : List Deed} {s : Stm} {d : Deed} {y : D} (hy : okD 31 y = true) : notInD y (.list ((whyL ds s d).map PyData.str)) = some (.bool (!whyOk (decide (dStr y = some ("off" : Str))) (decide (dStr y = some ("apart" : Str))) (countsB ds d.st) (covB (orderOf ds) s d))) := by
  have h1 : ∀ x : Str, PyData.eqv (.str x) y = decide (dStr y = some x) := fun x => by
    by_cases h : y = .str x
    · subst h; rw [eqvS]; simp [dStr]
    · have h1 : PyData.eqv (.str x) y = false := by
        cases hq : PyData.eqv (.str x) y with
        | false => rfl
        | true => exact absurd (eqv_str_iff'.mp hq) h
      have h2 : ¬ dStr y = some x := by
        cases y with
        | str z => simp only [dStr, Option.some.injEq]; intro e; exact h (by rw [e])
        | _ => simp [dStr]
      simp [h1, h2]
  have hao : ¬ (("apart" : Str) = "off") := by decide +kernel
  have hoa : ¬ (("off" : Str) = "apart") := by decide +kernel
  have hx : inB y (.list ((whyL ds s d).map PyData.str)) = some (((whyL ds s d).map PyData.str).any fun z => PyData.eqv z y) := by
    have ha : ((whyL ds s d).map PyData.str).all (okD 32) = true := by
      rw [List.all_eq_true]
      intro z hz
      obtain ⟨q, _, rfl⟩ := List.mem_map.mp hz
      exact okD_str _ _
    have hi : ∀ L : List D, inB y (.list L) = if (okD 32 y && L.all (okD 32)) = true then some (L.any fun z => PyData.eqv z y) else none := fun L => by cases y <;> rfl
    rw [hi, okD_mono 31 32 (by omega) _ hy, ha]
    rfl
  unfold notInD
  rw [hx]
  have e : (((whyL ds s d).map PyData.str).any fun z => PyData.eqv z y) = whyOk (decide (dStr y = some ("off" : Str))) (decide (dStr y = some ("apart" : Str))) (countsB ds d.st) (covB (orderOf ds) s d) := by
    unfold whyL whyOk
    cases countsB ds d.st <;> cases covB (orderOf ds) s d <;> by_cases ho : dStr y = some ("off" : Str) <;> by_cases ha : dStr y = some ("apart" : Str) <;> simp [h1, ho, ha, hao, hoa]
  rw [e]; rfl
/-! ### the law's own look -/
theorem lawrow {ds : List Deed} (h : Fine ds) (hl : ds.length ≤ 1500) {s : Stm} (hs : s ∈ letS ds) {d : Deed} (hd : d ∈ ds) (hm : isMark d = true) {r : D} (hr : okD 30 r = true) (x3 x4 x5 x6 x7 x9 : Sl) :
    Fn.b1__law_is_paper [.dat (.tuple (ds.map dD)), .dat (.list ((orderOf ds).map dS)), .dat (dS s), x3, x4, x5, x6, x7, .dat (dD d), x9, .dat r] = if rowOk ds (orderOf ds) s d r = true then .nx [.dat (.tuple (ds.map dD)), .dat (.list ((orderOf ds).map dS)), .dat (dS s), x3, x4, x5, x6, x7, .dat (dD d), x9, .dat r] else .rt (.bool false) [.dat (.tuple (ds.map dD)), .dat (.list ((orderOf ds).map dS)), .dat (dS s), x3, x4, x5, x6, x7, .dat (dD d), x9, .dat r] := by
  have hr' := okD_mono 30 31 (by omega) r hr
  have hw := F_lawwhy h hl hs hd hm
  have no : ∀ x : D, isiB .tuple x = some false → Fn.b1__law_is_paper [.dat (.tuple (ds.map dD)), .dat (.list ((orderOf ds).map dS)), .dat (dS s), x3, x4, x5, x6, x7, .dat (dD d), x9, .dat x] = .rt (.bool false) [.dat (.tuple (ds.map dD)), .dat (.list ((orderOf ds).map dS)), .dat (dS s), x3, x4, x5, x6, x7, .dat (dD d), x9, .dat x] := fun x hx => by
    have q : (bOr (bNot (bTr (fIsi .tuple (fVar 10)))) (bOr (bOf (fOp neD (fCall (g1 lenD) (fCons (fVar 10) fNil)) (fC (.int 2)))) (bOf (fOp neD (fOp ixD (fVar 10) (fC (.int 0))) (fOp ixD (fVar 8) (fC (.int 1))))))) [.dat (.tuple (ds.map dD)), .dat (.list ((orderOf ds).map dS)), .dat (dS s), x3, x4, x5, x6, x7, .dat (dD d), x9, .dat x] = .ok true := by
      simp [hx]
    simp only [Fn.b1__law_is_paper, gSeq_e, gIf_t _ _ _ _ q, gRet_e, fC_e, So.of_ok, then_rt]
  have no2 : ∀ xs : List D, xs.length ≠ 2 → Fn.b1__law_is_paper [.dat (.tuple (ds.map dD)), .dat (.list ((orderOf ds).map dS)), .dat (dS s), x3, x4, x5, x6, x7, .dat (dD d), x9, .dat (.tuple xs)] = .rt (.bool false) [.dat (.tuple (ds.map dD)), .dat (.list ((orderOf ds).map dS)), .dat (dS s), x3, x4, x5, x6, x7, .dat (dD d), x9, .dat (.tuple xs)] := fun xs hx => by
    have hn : neD (.int (xs.length : Nat)) (.int 2) = some (.bool true) := by
      unfold neD
      have : PyData.eqv (.int (xs.length : Nat)) (.int 2) = false := by
        show (((xs.length : Nat) : Int) == 2) = false
        simp; omega
      rw [this]; rfl
    have q : (bOr (bNot (bTr (fIsi .tuple (fVar 10)))) (bOr (bOf (fOp neD (fCall (g1 lenD) (fCons (fVar 10) fNil)) (fC (.int 2)))) (bOf (fOp neD (fOp ixD (fVar 10) (fC (.int 0))) (fOp ixD (fVar 8) (fC (.int 1))))))) [.dat (.tuple (ds.map dD)), .dat (.list ((orderOf ds).map dS)), .dat (dS s), x3, x4, x5, x6, x7, .dat (dD d), x9, .dat (.tuple xs)] = .ok true := by
      simp [isiB, hn]
    simp only [Fn.b1__law_is_paper, gSeq_e, gIf_t _ _ _ _ q, gRet_e, fC_e, So.of_ok, then_rt]
  cases r with
  | tuple xs =>
    match xs, hr with
    | [x, y], hr =>
      have hr2 : [x, y].all (okD 29) = true := hr
      simp only [List.all_cons, List.all_nil, Bool.and_true, Bool.and_eq_true] at hr2
      have hne : neD x (dS d.st) = some (.bool (!PyData.eqv x (dS d.st))) := by
        unfold neD
        rw [okD_mono 29 32 (by omega) x hr2.1, okD_S]
        rfl
      have hlen : neD (.int (2 : Nat)) (.int 2) = some (.bool false) := rfl
      have ix0 : ixD (.tuple [x, y]) (.int 0) = some x := by simp
      have ix1 : ixD (.tuple [x, y]) (.int 1) = some y := by simp
      have hlen2 : lenD (.tuple [x, y]) = some (.int (2 : Nat)) := rfl
      have hw2 := in_why (ds := ds) (s := s) (d := d) (okD_mono 29 31 (by omega) y hr2.2)
      have hcond : (bOr (bNot (bTr (fIsi .tuple (fVar 10)))) (bOr (bOf (fOp neD (fCall (g1 lenD) (fCons (fVar 10) fNil)) (fC (.int 2)))) (bOf (fOp neD (fOp ixD (fVar 10) (fC (.int 0))) (fOp ixD (fVar 8) (fC (.int 1))))))) [.dat (.tuple (ds.map dD)), .dat (.list ((orderOf ds).map dS)), .dat (dS s), x3, x4, x5, x6, x7, .dat (dD d), x9, .dat (.tuple [x, y])] = .ok (!PyData.eqv x (dS d.st)) := by
        simp only [bOr_e, bNot_e, bTr_e, fIsi_e, fVar_s, fVar_0, Rs.ok_bind, isiB, Rs.of_some, truD_bool, Bool.not_true, Bool.false_eq_true, if_false, bOf_e, fOp_e, fCall_e, fCons_e, fNil_e, g1_e, hlen2, fC_e, hlen, blOf_bool, ix0, ixD_dD1, hne]
      have hc2 : (bOf (fOp notInD (fOp ixD (fVar 10) (fC (.int 1))) (fCallF Fn.F__law_why (fCons (fVar 0) (fCons (fVar 1) (fCons (fVar 2) (fCons (fVar 8) fNil))))))) [.dat (.tuple (ds.map dD)), .dat (.list ((orderOf ds).map dS)), .dat (dS s), x3, x4, x5, x6, x7, .dat (dD d), x9, .dat (.tuple [x, y])] = .ok (!whyOk (decide (dStr y = some ("off" : Str))) (decide (dStr y = some ("apart" : Str))) (countsB ds d.st) (covB (orderOf ds) s d)) := by
        simp only [bOf_e, fOp_e, fVar_s, fVar_0, fC_e, Rs.ok_bind, ix1, Rs.of_some, fCallF_e, fCons_e, fNil_e, hw, noX_ok_e, hw2, blOf_bool]
      have ro : rowOk ds (orderOf ds) s d (.tuple [x, y]) = (PyData.eqv x (dS d.st) && whyOk (decide (dStr y = some ("off" : Str))) (decide (dStr y = some ("apart" : Str))) (countsB ds d.st) (covB (orderOf ds) s d)) := rfl
      rw [ro]
      cases he : PyData.eqv x (dS d.st) with
      | false =>
        rw [he] at hcond
        simp only [Fn.b1__law_is_paper, gSeq_e, gIf_t _ _ _ _ hcond, gRet_e, fC_e, So.of_ok, then_rt, Bool.false_and, Bool.false_eq_true, if_false]
      | true =>
        rw [he] at hcond
        rw [Bool.true_and]
        cases hk : whyOk (decide (dStr y = some ("off" : Str))) (decide (dStr y = some ("apart" : Str))) (countsB ds d.st) (covB (orderOf ds) s d) with
        | true =>
          rw [hk] at hc2
          simp only [Fn.b1__law_is_paper, gSeq_e, gIf_f _ _ _ _ hcond, gNx_e, then_nx, gIf_f _ _ _ _ hc2, if_true]
        | false =>
          rw [hk] at hc2
          simp only [Fn.b1__law_is_paper, gSeq_e, gIf_f _ _ _ _ hcond, gNx_e, then_nx, gIf_t _ _ _ _ hc2, gRet_e, fC_e, So.of_ok, Bool.false_eq_true, if_false]
    | [], _ => exact no2 _ (by simp)
    | [x], _ => exact no2 _ (by simp)
    | x :: y :: z :: q, _ => rw [no2 _ (by simp)]; rfl
  | dict kvs => rw [okD_dic] at hr; cases hr
  | _ => exact no _ rfl
theorem lawrows {ds : List Deed} (h : Fine ds) (hl : ds.length ≤ 1500) {s : Stm} (hs : s ∈ letS ds) (x3 x4 x5 x6 x7 x9 : Sl) : ∀ (L : List Deed) (rows : List D), (∀ d ∈ L, d ∈ ds ∧ isMark d = true) → (∀ r ∈ rows, okD 30 r = true) → L.length = rows.length → ∀ x8 x10, ∃ δ',
    forS (ftT [8, 10]) Fn.b1__law_is_paper (zipL (L.map dD) rows) [.dat (.tuple (ds.map dD)), .dat (.list ((orderOf ds).map dS)), .dat (dS s), x3, x4, x5, x6, x7, x8, x9, x10] = if rowsOk ds (orderOf ds) s L rows = true then .nx δ' else .rt (.bool false) δ'
  | [], [], _, _, _, x8, x10 => ⟨_, by simp [zipL, rowsOk]; rfl⟩
  | d :: L, r :: rows, h1, h2, h3, x8, x10 => by
    obtain ⟨δ', hr⟩ := lawrows h hl hs x3 x4 x5 x6 x7 x9 L rows (fun q hq => h1 q (List.mem_cons_of_mem _ hq)) (fun q hq => h2 q (List.mem_cons_of_mem _ hq)) (by simpa using h3) (.dat (dD d)) (.dat r)
    refine ⟨if rowOk ds (orderOf ds) s d r = true then δ' else [.dat (.tuple (ds.map dD)), .dat (.list ((orderOf ds).map dS)), .dat (dS s), x3, x4, x5, x6, x7, .dat (dD d), x9, .dat r], ?_⟩
    have h4 := h1 d List.mem_cons_self
    have st := lawrow h hl hs h4.1 h4.2 (h2 r List.mem_cons_self) x3 x4 x5 x6 x7 x9
    rw [List.map_cons]
    unfold zipL
    rw [forS_cons]
    have hft : ftT [8, 10] (.tuple [dD d, r]) [.dat (.tuple (ds.map dD)), .dat (.list ((orderOf ds).map dS)), .dat (dS s), x3, x4, x5, x6, x7, x8, x9, x10] = some [.dat (.tuple (ds.map dD)), .dat (.list ((orderOf ds).map dS)), .dat (dS s), x3, x4, x5, x6, x7, .dat (dD d), x9, .dat r] := by simp [ftT, setAll]
    rw [hft]
    simp only
    rw [st]
    unfold rowsOk
    cases rowOk ds (orderOf ds) s d r with
    | true =>
      simp only [if_true, Bool.true_and, turnS_nx]
      exact hr
    | false => simp [turnS]
  | [], r :: rows, _, _, h3, _, _ => by simp at h3
  | d :: L, [], _, _, h3, _, _ => by simp at h3
theorem neD_nil (xs : List D) (h : xs.all (okD 31) = true) : neD (.list xs) (.list []) = some (.bool (!xs.isEmpty)) := by
  have := eqD_nil xs h
  unfold eqD at this
  unfold neD
  split at this
  · rename_i hc
    rw [if_pos hc]
    simp only [Option.some.injEq, PyData.bool.injEq] at this
    rw [this]
  · cases this
theorem why_nil (ds : List Deed) (s : Stm) (d : Deed) : ((whyL ds s d).map PyData.str).isEmpty = (countsB ds d.st && covB (orderOf ds) s d) := by
  unfold whyL
  cases countsB ds d.st <;> cases covB (orderOf ds) s d <;> rfl
theorem lawp_fin {ds : List Deed} (h : Fine ds) (hl : ds.length ≤ 1500) {s : Stm} (hs : s ∈ letS ds) (k : Str) (mo : Option Stm) (rows : List D) (hr : rows.all (okD 30) = true) (x6 x7 x8 x9 x10 : Sl) (hrl : rows.length ≤ 100000) :
    So.fin ((gSeq (gSet 9 Fn.c1__law_is_paper)
    (gSeq (gIf (bOf (fOp neD (fCall (g1 lenD) (fCons (fVar 9) fNil)) (fCall (g1 lenD) (fCons (fOp ixD (fVar 4) (fC (.int 1))) fNil))))
    (gRet (fC (.bool false)))
    gNx)
    (gSeq (gFor (fZipM (fVar 9) (fOp ixD (fVar 4) (fC (.int 1)))) (ftT [8, 10]) Fn.b1__law_is_paper)
    (gRet (fC (.bool true)))))) [.dat (.tuple (ds.map dD)), .dat (.list ((orderOf ds).map dS)), .dat (dS s), .dat (.str k), .dat (.tuple [dO mo, .tuple rows]), .dat (.list ((ds.filter (isMk k)).map dD)), x6, x7, x8, x9, x10]) = .ok (.bool (rowsOk ds (orderOf ds) s (laterL ds k mo) rows)) := by
  have hix0 : ixD (.tuple [dO mo, .tuple rows]) (.int 0) = some (dO mo) := by simp
  have hix1 : ixD (.tuple [dO mo, .tuple rows]) (.int 1) = some (.tuple rows) := by simp
  have hfl := filter_len (isMk k) ds
  have c1 : Fn.c1__law_is_paper [.dat (.tuple (ds.map dD)), .dat (.list ((orderOf ds).map dS)), .dat (dS s), .dat (.str k), .dat (.tuple [dO mo, .tuple rows]), .dat (.list ((ds.filter (isMk k)).map dD)), x6, x7, x8, x9, x10] = .ok (.list ((laterL ds k mo).map dD)) := by
    unfold Fn.c1__law_is_paper
    refine fLc_map dD (fun d => gtO mo d.st) dD (ds.filter (isMk k)) (by omega) (by simp [itemsOf]) fun d hd => ⟨_, rfl, ?_, fun _ => by simp [wipeS]⟩
    cases mo with
    | none => simp [wipeS, dO, isD, isNon, gtO]
    | some t =>
      have hix2 : ixD (.tuple [dS t, .tuple rows]) (.int 0) = some (dS t) := hix0
      simp [wipeS, dO, hix2, isD_S, gtD_S, gtO]
  have hll := laterL_len ds k mo
  have hne : neD (.int ((laterL ds k mo).length : Nat)) (.int (rows.length : Nat)) = some (.bool (!decide ((laterL ds k mo).length = rows.length))) := by
    unfold neD
    have : PyData.eqv (.int ((laterL ds k mo).length : Nat)) (.int (rows.length : Nat)) = decide ((laterL ds k mo).length = rows.length) := by
      show ((((laterL ds k mo).length : Nat) : Int) == ((rows.length : Nat) : Int)) = _
      by_cases e : (laterL ds k mo).length = rows.length
      · simp [e]
      · simp [e]; omega
    rw [this]; rfl
  have q1 : ∀ x9, (bOf (fOp neD (fCall (g1 lenD) (fCons (fVar 9) fNil)) (fCall (g1 lenD) (fCons (fOp ixD (fVar 4) (fC (.int 1))) fNil)))) [.dat (.tuple (ds.map dD)), .dat (.list ((orderOf ds).map dS)), .dat (dS s), .dat (.str k), .dat (.tuple [dO mo, .tuple rows]), .dat (.list ((ds.filter (isMk k)).map dD)), x6, x7, x8, .dat (.list ((laterL ds k mo).map dD)), x9] = .ok (!decide ((laterL ds k mo).length = rows.length)) := fun x9 => by
    simp only [bOf_e, fOp_e, fCall_e, fCons_e, fVar_s, fVar_0, fNil_e, Rs.ok_bind, g1_e, lenD_l, Rs.of_some, fC_e, hix1, lenD_t, List.length_map, hne, blOf_bool]
  by_cases e : (laterL ds k mo).length = rows.length
  · rw [decide_eq_true e] at q1
    rw [List.all_eq_true] at hr
    obtain ⟨δ', hf⟩ := lawrows h hl hs (.dat (.str k)) (.dat (.tuple [dO mo, .tuple rows])) (.dat (.list ((ds.filter (isMk k)).map dD))) x6 x7 (.dat (.list ((laterL ds k mo).map dD))) (laterL ds k mo) rows (fun d hd => ⟨(laterL_sub hd).1, isMk_mark (laterL_sub hd).2.1⟩) hr e x8 x10
    simp only [gSeq_e, gSet_e, c1, So.of_ok, then_nx, List.set_cons_succ, List.set_cons_zero, gIf_f _ _ _ _ (q1 _), gNx_e, gFor_e, fZipM_e, fVar_s, fVar_0, Rs.ok_bind, fOp_e, fC_e, hix1, Rs.of_some, zipMD, hf]
    cases rowsOk ds (orderOf ds) s (laterL ds k mo) rows with
    | true => simp
    | false => simp
  · rw [decide_eq_false e] at q1
    have hf : rowsOk ds (orderOf ds) s (laterL ds k mo) rows = false := by
      cases hq : rowsOk ds (orderOf ds) s (laterL ds k mo) rows with
      | false => rfl
      | true => exact absurd (rowsOk_len hq) e
    rw [hf]
    simp only [gSeq_e, gSet_e, c1, So.of_ok, then_nx, List.set_cons_succ, List.set_cons_zero, gIf_t _ _ _ _ (q1 _), gRet_e, fC_e, then_rt, fin_rt]
theorem lawp_pair {ds : List Deed} (h : Fine ds) (h0 : ∀ d ∈ ds, 0 < d.st.1) (hl : ds.length ≤ 1500) {s : Stm} (hs : s ∈ letS ds) (k : Str) {m : D} {rows : List D} (hm : okD 31 m = true) (hmt : noTrue m = true) (hr : rows.all (okD 30) = true) (hrl : rows.length ≤ 100000) :
    Fn.F__law_is_paper [.tuple (ds.map dD), .list ((orderOf ds).map dS), dS s, .str k, .tuple [m, .tuple rows]] = .ok (.bool (isPaperB ds k s (.tuple [m, .tuple rows]))) := by
  unfold Fn.F__law_is_paper
  rw [fnD_5 6]
  simp only [List.replicate]
  have hlen2 : lenD (.tuple [m, .tuple rows]) = some (.int (2 : Nat)) := rfl
  have hne2 : neD (.int (2 : Nat)) (.int 2) = some (.bool false) := rfl
  have hix : ixD (.tuple [m, .tuple rows]) (.int 1) = some (.tuple rows) := by simp
  have hix0 : ixD (.tuple [m, .tuple rows]) (.int 0) = some m := by simp
  have hc1 : (bOr (bNot (bTr (fIsi .tuple (fVar 4)))) (bOr (bOf (fOp neD (fCall (g1 lenD) (fCons (fVar 4) fNil)) (fC (.int 2)))) (bNot (bTr (fIsi .tuple (fOp ixD (fVar 4) (fC (.int 1)))))))) [.dat (.tuple (ds.map dD)), .dat (.list ((orderOf ds).map dS)), .dat (dS s), .dat (.str k), .dat (.tuple [m, .tuple rows]), .no, .no, .no, .no, .no, .no] = .ok false := by
    simp only [bOr_e, bNot_e, bTr_e, fIsi_e, fVar_s, fVar_0, Rs.ok_bind, isiB, Rs.of_some, truD_bool, Bool.not_true, Bool.false_eq_true, if_false, bOf_e, fOp_e, fCall_e, fCons_e, fNil_e, g1_e, hlen2, fC_e, hne2, blOf_bool, hix]
  have hfl := filter_len (isMk k) ds
  have c3 : Fn.c3__law_is_paper [.dat (.tuple (ds.map dD)), .dat (.list ((orderOf ds).map dS)), .dat (dS s), .dat (.str k), .dat (.tuple [m, .tuple rows]), .no, .no, .no, .no, .no, .no] = .ok (.list ((ds.filter (isMk k)).map dD)) := by
    unfold Fn.c3__law_is_paper
    refine fLc_map dD (isMk k) dD ds (by omega) (by simp [itemsOf]) fun d hd => ⟨_, rfl, ?_, fun _ => by simp [wipeS]⟩
    cases d with
    | mark t k' f e v =>
      have i2 : ixD (dD (.mark t k' f e v)) (.int 2) = some (.str k') := rfl
      simp [wipeS, eqD_str, Deed.word, i2, isMk]
    | _ => simp [wipeS, eqD_str, Deed.word, isMk]
  unfold Fn.g__law_is_paper
  rw [gSeq_e, gIf_f _ _ _ _ hc1, gNx_e, then_nx, gSeq_e, gSet_e, c3, So.of_ok, then_nx, gSeq_e]
  simp only [List.set_cons_succ, List.set_cons_zero]
  by_cases hn : m = .none
  · subst hn
    have hc2 : (bOf (fOp isNotD (fOp ixD (fVar 4) (fC (.int 0))) (fC .none))) [.dat (.tuple (ds.map dD)), .dat (.list ((orderOf ds).map dS)), .dat (dS s), .dat (.str k), .dat (.tuple [.none, .tuple rows]), .dat (.list ((ds.filter (isMk k)).map dD)), .no, .no, .no, .no, .no] = .ok false := by
      simp [isNotD, isNon]
    rw [gIf_f _ _ _ _ hc2, gNx_e, then_nx]
    exact lawp_fin h hl hs k none rows hr _ _ _ _ _ hrl
  · have hc2 : (bOf (fOp isNotD (fOp ixD (fVar 4) (fC (.int 0))) (fC .none))) [.dat (.tuple (ds.map dD)), .dat (.list ((orderOf ds).map dS)), .dat (dS s), .dat (.str k), .dat (.tuple [m, .tuple rows]), .dat (.list ((ds.filter (isMk k)).map dD)), .no, .no, .no, .no, .no] = .ok true := by
      have : isNotD m .none = some (.bool true) := by cases m <;> first | exact absurd rfl hn | rfl
      simp only [bOf_e, fOp_e, fVar_s, fVar_0, fC_e, Rs.ok_bind, hix0, this, Rs.of_some, blOf_bool]
    rw [gIf_t _ _ _ _ hc2, isPaperB_m hn]
    have c2 : Fn.c2__law_is_paper [.dat (.tuple (ds.map dD)), .dat (.list ((orderOf ds).map dS)), .dat (dS s), .dat (.str k), .dat (.tuple [m, .tuple rows]), .dat (.list ((ds.filter (isMk k)).map dD)), .no, .no, .no, .no, .no] = .ok (.list (((ds.filter (isMk k)).filter fun d => PyData.eqv (dS d.st) m).map dD)) := by
      unfold Fn.c2__law_is_paper
      refine fLc_map dD (fun d => PyData.eqv (dS d.st) m) dD (ds.filter (isMk k)) (by omega) (by simp [itemsOf]) fun d hd => ⟨_, rfl, ?_, fun _ => by simp [wipeS]⟩
      have he : eqD (dS d.st) m = some (.bool (PyData.eqv (dS d.st) m)) := by
        unfold eqD
        rw [okD_S, okD_mono 31 32 (by omega) m hm]
        rfl
      simp [wipeS, he]
    rw [gSeq_e, gSet_e, c2, So.of_ok, then_nx]
    simp only [List.set_cons_succ, List.set_cons_zero]
    have hok : ∀ L : List Deed, (∀ d ∈ L, d ∈ ds) → (L.map dD).all (okD 31) = true := fun L hL => by
      rw [List.all_eq_true]
      intro x hx
      obtain ⟨d, hd, rfl⟩ := List.mem_map.mp hx
      exact okD_D' 29 (h.vok d (hL d hd))
    cases hf : (ds.filter (isMk k)).filter fun d => PyData.eqv (dS d.st) m with
    | nil =>
      have hno : mineOf ds k m = none := by
        unfold mineOf
        rw [List.find?_eq_none]
        intro d hd hq
        obtain ⟨h1, h2⟩ := marksL_mem.mp hd
        have : d ∈ (ds.filter (isMk k)).filter fun d => PyData.eqv (dS d.st) m := List.mem_filter.mpr ⟨List.mem_filter.mpr ⟨h1, h2⟩, hq⟩
        rw [hf] at this; simp at this
      rw [hno]
      have q : (bOr (bOf (fOp eqD (fVar 7) (fLst fNil))) (bOf (fOp neD (fCallF Fn.F__law_why (fCons (fVar 0) (fCons (fVar 1) (fCons (fVar 2) (fCons (fOp ixD (fVar 7) (fC (.int 0))) fNil))))) (fLst fNil)))) [.dat (.tuple (ds.map dD)), .dat (.list ((orderOf ds).map dS)), .dat (dS s), .dat (.str k), .dat (.tuple [m, .tuple rows]), .dat (.list ((ds.filter (isMk k)).map dD)), .no, .dat (.list (List.map dD [])), .no, .no, .no] = .ok true := by
        simp [show eqD (.list []) (.list []) = some (.bool true) from rfl, show fits 0 = true from rfl]
      rw [gIf_t _ _ _ _ q]
      simp
    | cons d r =>
      have hmem : d ∈ (ds.filter (isMk k)).filter fun d => PyData.eqv (dS d.st) m := by rw [hf]; exact List.mem_cons_self
      obtain ⟨hd1, hd2⟩ := List.mem_filter.mp hmem
      obtain ⟨hd3, hd4⟩ := List.mem_filter.mp hd1
      have hmd := (eqv_S_iff (h0 d hd3) hmt).mp hd2
      subst hmd
      rw [mine_of h.rise hd3 hd4]
      have hw := F_lawwhy h hl hs hd3 (isMk_mark hd4)
      have hall : ∀ q ∈ d :: r, q ∈ ds := fun q hq => by
        rw [← hf] at hq
        exact (List.mem_filter.mp (List.mem_filter.mp hq).1).1
      have f0 : fits 0 = true := rfl
      have hwo : ((whyL ds s d).map PyData.str).all (okD 31) = true := by
        rw [List.all_eq_true]
        intro z hz
        obtain ⟨q, _, rfl⟩ := List.mem_map.mp hz
        exact okD_str _ _
      have hei := eqD_nil _ (hok (d :: r) hall)
      have hni := neD_nil _ hwo
      rw [why_nil] at hni
      simp only [List.map_cons] at hei
      have hi0 : ixD (.list (dD d :: r.map dD)) (.int 0) = some (dD d) := by simp
      have q : (bOr (bOf (fOp eqD (fVar 7) (fLst fNil))) (bOf (fOp neD (fCallF Fn.F__law_why (fCons (fVar 0) (fCons (fVar 1) (fCons (fVar 2) (fCons (fOp ixD (fVar 7) (fC (.int 0))) fNil))))) (fLst fNil)))) [.dat (.tuple (ds.map dD)), .dat (.list ((orderOf ds).map dS)), .dat (dS s), .dat (.str k), .dat (.tuple [dS d.st, .tuple rows]), .dat (.list ((ds.filter (isMk k)).map dD)), .no, .dat (.list (List.map dD (d :: r))), .no, .no, .no] = .ok (!(countsB ds d.st && covB (orderOf ds) s d)) := by
        simp only [bOr_e, bOf_e, fOp_e, fVar_s, fVar_0, fLst_e, fNil_e, Rs.ok_bind, List.length_nil, f0, need_true, List.map_cons, hei, List.isEmpty_cons, Rs.of_some, blOf_bool, Bool.false_eq_true, if_false, fCallF_e, fCons_e, fC_e, hi0, hw, noX_ok_e, hni]
      cases hb : (countsB ds d.st && covB (orderOf ds) s d) with
      | true =>
        rw [hb] at q
        rw [gIf_f _ _ _ _ q, gNx_e, then_nx]
        rw [Bool.and_eq_true] at hb
        simp only [hb.1, hb.2, Bool.true_and]
        exact lawp_fin h hl hs k (some d.st) rows hr _ _ _ _ _ hrl
      | false =>
        rw [hb] at q
        rw [gIf_t _ _ _ _ q]
        simp only
        rw [← Bool.and_assoc, hb]
        simp
theorem F_lawispaper {ds : List Deed} (h : Fine ds) (h0 : ∀ d ∈ ds, 0 < d.st.1) (hl : ds.length ≤ 1500) {s : Stm} (hs : s ∈ letS ds) (k : Str) {thing : D} (ht : okD 32 thing = true) (htt : noTrue thing = true) (hbig : ∀ m rows, thing = .tuple [m, .tuple rows] → rows.length ≤ 100000) :
    Fn.F__law_is_paper [.tuple (ds.map dD), .list ((orderOf ds).map dS), dS s, .str k, thing] = .ok (.bool (isPaperB ds k s thing)) := by
  have no0 : ∀ x : D, (bOr (bNot (bTr (fIsi .tuple (fVar 4)))) (bOr (bOf (fOp neD (fCall (g1 lenD) (fCons (fVar 4) fNil)) (fC (.int 2)))) (bNot (bTr (fIsi .tuple (fOp ixD (fVar 4) (fC (.int 1)))))))) [.dat (.tuple (ds.map dD)), .dat (.list ((orderOf ds).map dS)), .dat (dS s), .dat (.str k), .dat x, .no, .no, .no, .no, .no, .no] = .ok true → Fn.F__law_is_paper [.tuple (ds.map dD), .list ((orderOf ds).map dS), dS s, .str k, x] = .ok (.bool false) := fun x q => by
    unfold Fn.F__law_is_paper
    rw [fnD_5 6]
    simp only [List.replicate, Fn.g__law_is_paper, gSeq_e, gIf_t _ _ _ _ q, gRet_e, fC_e, So.of_ok, then_rt, fin_rt]
  have no : ∀ x : D, isiB .tuple x = some false → isPaperB ds k s x = false → Fn.F__law_is_paper [.tuple (ds.map dD), .list ((orderOf ds).map dS), dS s, .str k, x] = .ok (.bool (isPaperB ds k s x)) := fun x h1 h2 => by
    rw [h2]
    exact no0 x (by simp [h1])
  have no2 : ∀ xs : List D, xs.length ≠ 2 → Fn.F__law_is_paper [.tuple (ds.map dD), .list ((orderOf ds).map dS), dS s, .str k, .tuple xs] = .ok (.bool false) := fun xs hx => by
    have hn : neD (.int (xs.length : Nat)) (.int 2) = some (.bool true) := by
      unfold neD
      have : PyData.eqv (.int (xs.length : Nat)) (.int 2) = false := by
        show (((xs.length : Nat) : Int) == 2) = false
        simp; omega
      rw [this]; rfl
    exact no0 _ (by simp [isiB, hn])
  have no3 : ∀ m r : D, isiB .tuple r = some false → Fn.F__law_is_paper [.tuple (ds.map dD), .list ((orderOf ds).map dS), dS s, .str k, .tuple [m, r]] = .ok (.bool false) := fun m r hr => by
    have hn : neD (.int (2 : Nat)) (.int 2) = some (.bool false) := rfl
    have hlen2 : lenD (.tuple [m, r]) = some (.int (2 : Nat)) := rfl
    have hix : ixD (.tuple [m, r]) (.int 1) = some r := by simp
    have ht : isiB .tuple (.tuple [m, r]) = some true := rfl
    refine no0 _ ?_
    simp only [bOr_e, bNot_e, bTr_e, fIsi_e, fVar_s, fVar_0, Rs.ok_bind, ht, Rs.of_some, truD_bool, Bool.not_true, Bool.false_eq_true, if_false, bOf_e, fOp_e, fCall_e, fCons_e, fNil_e, g1_e, hlen2, fC_e, hn, blOf_bool, hix, hr, Bool.not_false]
  cases thing with
  | tuple xs =>
    match xs, ht, htt with
    | [m, r], ht, htt =>
      have h1 : (okD 31 m && okD 31 r) = true := by simpa using ht
      rw [Bool.and_eq_true] at h1
      cases r with
      | tuple rows =>
        have h2 : rows.all (okD 30) = true := h1.2
        have h3 : noTrue m = true := by
          have : noTrues [m, .tuple rows] = true := htt
          simp only [noTrues, Bool.and_eq_true] at this
          exact this.1
        exact lawp_pair h h0 hl hs k h1.1 h3 h2 (hbig m rows rfl)
      | dict kvs => have := h1.2; rw [okD_dic] at this; cases this
      | none => rw [no3 m _ rfl]; cases m <;> rfl
      | bool b => rw [no3 m _ rfl]; cases m <;> rfl
      | int b => rw [no3 m _ rfl]; cases m <;> rfl
      | str b => rw [no3 m _ rfl]; cases m <;> rfl
      | list b => rw [no3 m _ rfl]; cases m <;> rfl
    | [], _, _ => exact no2 [] (by simp)
    | [x], _, _ => rw [no2 [x] (by simp)]; cases x <;> rfl
    | x :: y :: z :: q, _, _ => rw [no2 _ (by simp)]; cases x <;> cases y <;> rfl
  | dict kvs => rw [okD_dic] at ht; cases ht
  | _ => exact no _ rfl rfl
end Hm
/-! Pu18: odd things -/
namespace Hm
open PySem PySem.SeqAt L2
@[simp] theorem fUp_e (f : Fe) (δ : Dl) : fUp f δ = (f δ >>= fun d => Rs.of (upD d)) := rfl
def gdD (tr : Bool) (B : Nat) : Nat → D → Bool
  | _, .none => true
  | _, .bool b => tr || !b
  | _, .int _ => true
  | _, .str x => decide (x.length ≤ B)
  | n + 1, .tuple xs => decide (xs.length ≤ B) && xs.all (gdD tr B n)
  | 0, .tuple _ => false
  | _, .list _ => false
  | _, .dict _ => false
def ooD (tr : Bool) (B : Nat) : Nat → D → Bool
  | _, .none => true
  | _, .bool b => tr || !b
  | _, .int _ => true
  | _, .str _ => true
  | n + 1, .tuple xs => decide (xs.length ≤ B) && xs.all (ooD tr B n)
  | n + 1, .list xs => decide (xs.length ≤ B) && xs.all (ooD tr B n)
  | 0, .tuple _ => false
  | 0, .list _ => false
  | _, .dict _ => false
section
variable {tr : Bool} {B : Nat}
@[simp] theorem gd_none (n : Nat) : gdD tr B n .none = true := by cases n <;> rfl
@[simp] theorem gd_int (n : Nat) (i : Int) : gdD tr B n (.int i) = true := by cases n <;> rfl
@[simp] theorem gd_bool (n : Nat) (b : Bool) : gdD tr B n (.bool b) = (tr || !b) := by cases n <;> rfl
@[simp] theorem gd_str (n : Nat) (x : Str) : gdD tr B n (.str x) = decide (x.length ≤ B) := by cases n <;> rfl
@[simp] theorem gdd_tup (n : Nat) (xs : List D) : gdD tr B (n + 1) (.tuple xs) = (decide (xs.length ≤ B) && xs.all (gdD tr B n)) := rfl
@[simp] theorem gd_lst (n : Nat) (xs : List D) : gdD tr B n (.list xs) = false := by cases n <;> rfl
@[simp] theorem gd_dic (n : Nat) (xs : List (D × D)) : gdD tr B n (.dict xs) = false := by cases n <;> rfl
@[simp] theorem oo_none (n : Nat) : ooD tr B n .none = true := by cases n <;> rfl
@[simp] theorem oo_int (n : Nat) (i : Int) : ooD tr B n (.int i) = true := by cases n <;> rfl
@[simp] theorem oo_bool (n : Nat) (b : Bool) : ooD tr B n (.bool b) = (tr || !b) := by cases n <;> rfl
@[simp] theorem oo_str (n : Nat) (x : Str) : ooD tr B n (.str x) = true := by cases n <;> rfl
@[simp] theorem oo_tup (n : Nat) (xs : List D) : ooD tr B (n + 1) (.tuple xs) = (decide (xs.length ≤ B) && xs.all (ooD tr B n)) := rfl
@[simp] theorem oo_lst (n : Nat) (xs : List D) : ooD tr B (n + 1) (.list xs) = (decide (xs.length ≤ B) && xs.all (ooD tr B n)) := rfl
theorem gd_oo {B' : Nat} (hB : B ≤ B') : ∀ (n m : Nat), n ≤ m → ∀ d, gdD tr B n d = true → ooD tr B' m d = true
  | 0, m, _, d, h => by
    cases d <;> simp_all
    · cases h
  | n + 1, 0, l, _, _ => by omega
  | n + 1, m + 1, l, d, h => by
    cases d with
    | tuple xs =>
      simp only [gdd_tup, Bool.and_eq_true, decide_eq_true_eq, List.all_eq_true] at h
      simp only [oo_tup, Bool.and_eq_true, decide_eq_true_eq, List.all_eq_true]
      exact ⟨by omega, fun x hx => gd_oo hB n m (by omega) x (h.2 x hx)⟩
    | list xs => simp at h
    | dict kvs => simp at h
    | bool b => simpa using h
    | _ => simp
theorem oo_mono {B' : Nat} (hB : B ≤ B') : ∀ (n m : Nat), n ≤ m → ∀ d, ooD tr B n d = true → ooD tr B' m d = true
  | 0, m, _, d, h => by
    cases d <;> simp_all <;> cases h
  | n + 1, 0, l, _, _ => by omega
  | n + 1, m + 1, l, d, h => by
    cases d with
    | tuple xs =>
      simp only [oo_tup, Bool.and_eq_true, decide_eq_true_eq, List.all_eq_true] at h
      simp only [oo_tup, Bool.and_eq_true, decide_eq_true_eq, List.all_eq_true]
      exact ⟨by omega, fun x hx => oo_mono hB n m (by omega) x (h.2 x hx)⟩
    | list xs =>
      simp only [oo_lst, Bool.and_eq_true, decide_eq_true_eq, List.all_eq_true] at h
      simp only [oo_lst, Bool.and_eq_true, decide_eq_true_eq, List.all_eq_true]
      exact ⟨by omega, fun x hx => oo_mono hB n m (by omega) x (h.2 x hx)⟩
    | dict kvs => cases h
    | bool b => simpa using h
    | _ => simp
theorem oo_ok : ∀ (n : Nat) (d : D), ooD tr B n d = true → okD n d = true
  | 0, d, h => by cases d <;> first | (cases h; done) | simp
  | n + 1, d, h => by
    cases d with
    | tuple xs =>
      simp only [oo_tup, Bool.and_eq_true, List.all_eq_true] at h
      rw [okD_tup, List.all_eq_true]
      exact fun x hx => oo_ok n x (h.2 x hx)
    | list xs =>
      simp only [oo_lst, Bool.and_eq_true, List.all_eq_true] at h
      rw [okD_lst, List.all_eq_true]
      exact fun x hx => oo_ok n x (h.2 x hx)
    | dict kvs => cases h
    | _ => simp
theorem noTrues_all : ∀ xs : List D, (∀ x ∈ xs, noTrue x = true) → noTrues xs = true
  | [], _ => rfl
  | x :: xs, h => by
    rw [noTrues, h x List.mem_cons_self, noTrues_all xs fun y hy => h y (List.mem_cons_of_mem _ hy)]
    rfl
theorem oo_noTrue : ∀ (n : Nat) (d : D), ooD false B n d = true → noTrue d = true
  | 0, d, h => by
    cases d with
    | bool b => simpa [noTrue] using h
    | tuple xs => cases h
    | list xs => cases h
    | dict xs => cases h
    | _ => rfl
  | n + 1, d, h => by
    cases d with
    | bool b => simpa [noTrue] using h
    | tuple xs =>
      simp only [oo_tup, Bool.and_eq_true, List.all_eq_true] at h
      exact noTrues_all xs fun x hx => oo_noTrue n x (h.2 x hx)
    | list xs =>
      simp only [oo_lst, Bool.and_eq_true, List.all_eq_true] at h
      exact noTrues_all xs fun x hx => oo_noTrue n x (h.2 x hx)
    | dict xs => cases h
    | _ => rfl
end
theorem cutL_sub {t : Type} {xs : List t} {lo hi : Option Int} {x : t} (h : x ∈ cutL xs lo hi) : x ∈ xs := List.mem_of_mem_drop (List.mem_of_mem_take h)
theorem cutL_len {t : Type} (xs : List t) (lo hi : Option Int) : (cutL xs lo hi).length ≤ xs.length := by
  unfold cutL
  simp only [List.length_take, List.length_drop]
  omega
/-- one of a list, by a mixed number -/
theorem pickL (c : Int) (p : Int) (hp : 0 < p) (hp2 : p < 2 ^ 64) (L : List D) (hL : 0 < L.length) : ∃ r ∈ L, ixD (.list L) (.int (mix c p L.length)) = some r := by
  obtain ⟨h1, h2⟩ := mix_range c p L.length (by omega)
  obtain ⟨x, hx, h3⟩ := atI_mem L _ h1 h2
  exact ⟨x, hx, h3⟩
theorem pickT (c : Int) (p : Int) (hp : 0 < p) (hp2 : p < 2 ^ 64) (L : List D) (hL : 0 < L.length) : ∃ r ∈ L, ixD (.tuple L) (.int (mix c p L.length)) = some r := by
  obtain ⟨h1, h2⟩ := mix_range c p L.length (by omega)
  obtain ⟨x, hx, h3⟩ := atI_mem L _ h1 h2
  exact ⟨x, hx, h3⟩
/-! the things that stand for others -/
def oddT (xs : List D) : List D := [.list xs, .tuple (xs ++ cutL xs (some (-1)) none), .tuple (cutL xs none (some (-1))), .tuple xs.reverse, .tuple (cutL xs (some 1) none), .tuple [.tuple xs]]
def oddS (x : Str) : List D := [.str (x ++ "a"), .str (cutS x none (some (-1))), .str (Txt.upper x), .str (x ++ " "), .str (x ++ x), .list [.str x], .str (x ++ cutS x none (some 1))]
def fOddT : Fe := fOp mulD (fLst (fCons (fCall (g1 listD) (fCons (fVar 0) fNil)) (fCons (fOp addD (fVar 0) (fSl (fVar 0) (foSome (fNeg (fC (.int 1)))) foNo)) (fCons (fSl (fVar 0) foNo (foSome (fNeg (fC (.int 1))))) (fCons (fRev (fVar 0)) (fCons (fSl (fVar 0) (foSome (fC (.int 1))) foNo) (fCons (fTup (fCons (fVar 0) fNil)) fNil))))))) (fC (.int 2))
def fOddS : Fe := fOp mulD (fLst (fCons (fOp addD (fVar 0) (fC (.str "a"))) (fCons (fSl (fVar 0) foNo (foSome (fNeg (fC (.int 1))))) (fCons (fUp (fVar 0)) (fCons (fOp addD (fVar 0) (fC (.str " "))) (fCons (fOp mulD (fVar 0) (fC (.int 2))) (fCons (fLst (fCons (fVar 0) fNil)) (fCons (fOp addD (fVar 0) (fSl (fVar 0) foNo (foSome (fC (.int 1))))) fNil)))))))) (fC (.int 2))
def fOddI : Fe := fOp mulD (fLst (fCons (fOp addD (fVar 0) (fC (.int 1))) (fCons (fOp subD (fVar 0) (fC (.int 1))) (fCons (fOp subD (fC (.int 0)) (fVar 0)) (fCons (fTup (fCons (fVar 0) fNil)) (fCons (fOp addD (fVar 0) (fC (.int 2))) (fCons (fOp mulD (fVar 0) (fC (.int 2))) fNil))))))) (fC (.int 2))
theorem dbl (L : List D) (h : L.length ≤ 100) : mulD (.list L) (.int 2) = some (.list (L ++ L)) := by
  show (if decide (0 ≤ (2 : Int)) && decide ((2 : Int) < 1000) && fits (L.length * (2 : Int).toNat) then some (PyData.list (List.replicate (2 : Int).toNat L).flatten) else none) = _
  rw [fits_of (show L.length * (2 : Int).toNat ≤ 16777216 by show L.length * 2 ≤ _; omega)]
  show some (PyData.list (L ++ (L ++ []))) = _
  rw [List.append_nil]
theorem oddT_e (xs : List D) (h : xs.length ≤ 100000) (r : Dl) : fOddT (.dat (.tuple xs) :: r) = .ok (.list (oddT xs ++ oddT xs)) := by
  have hc := cutL_len xs (some (-1)) none
  have a1 : addD (.tuple xs) (.tuple (cutL xs (some (-1)) none)) = some (.tuple (xs ++ cutL xs (some (-1)) none)) := by
    show (if fits (xs.length + (cutL xs (some (-1)) none).length) then some (PyData.tuple (xs ++ cutL xs (some (-1)) none)) else none) = _
    rw [fits_of (by omega)]; rfl
  have l1 : listD (.tuple xs) = some (.list xs) := by
    first | rfl | (unfold listD; rw [fits_of (by omega)]; rfl)
  have f1 : fits 1 = true := rfl
  have f6 : fits 6 = true := rfl
  have := dbl (oddT xs) (by simp [oddT])
  unfold oddT at this ⊢
  simp only [fOddT, fOp_e, fLst_e, fCons_e, fCall_e, fVar_0, fNil_e, Rs.ok_bind, g1_e, l1, Rs.of_some, fSl_e, foSome_e, foNo_e, fNeg_e, fC_e, intOf_int, slD, a1, fRev_e, revD, fTup_e, List.length_cons, List.length_nil, Nat.zero_add, Nat.reduceAdd, f1, f6, need_true, this]
theorem oddS_e (x : Str) (h : x.length ≤ 100000) (r : Dl) : fOddS (.dat (.str x) :: r) = .ok (.list (oddS x ++ oddS x)) := by
  have ad : ∀ y : Str, y.length ≤ 100000 → addD (.str x) (.str y) = some (.str (x ++ y)) := fun y hy => by
    show (if fits (x.length + y.length) then some (PyData.str (x ++ y)) else none) = _
    rw [fits_of (by omega)]; rfl
  have sl : ∀ lo hi, slD (.str x) lo hi = some (.str (cutS x lo hi)) := fun lo hi => by
    show (if fits x.length then some (PyData.str (cutS x lo hi)) else none) = _
    rw [fits_of (by omega)]; rfl
  have up : upD (.str x) = some (.str (Txt.upper x)) := by
    show (if x.length ≤ 1000000 then some (PyData.str (Txt.upper x)) else none) = _
    rw [if_pos (by omega)]
  have mu : mulD (.str x) (.int 2) = some (.str (x ++ x)) := by
    show (if decide ((2 : Int) = 2) && fits (x.length * 2) then some (PyData.str (x ++ x)) else none) = _
    rw [fits_of (by omega)]; rfl
  have hcl : (cutS x none (some 1)).length ≤ 100000 := by
    have : (cutS x none (some 1)).length ≤ x.length := by
      unfold cutS Str.length
      simp
      omega
    omega
  have f1 : fits 1 = true := rfl
  have f7 : fits 7 = true := rfl
  have := dbl (oddS x) (by simp [oddS])
  unfold oddS at this ⊢
  simp only [fOddS, fOp_e, fLst_e, fCons_e, fVar_0, fNil_e, Rs.ok_bind, ad _ (show ("a" : Str).length ≤ 100000 by decide +kernel), ad _ (show (" " : Str).length ≤ 100000 by decide +kernel), ad _ hcl, Rs.of_some, fSl_e, foSome_e, foNo_e, fNeg_e, fC_e, intOf_int, sl, fUp_e, up, mu, List.length_cons, List.length_nil, Nat.zero_add, Nat.reduceAdd, f1, f7, need_true, this]
theorem oddI_e (i : Int) (r : Dl) : ∃ a b c e f : Int, fOddI (.dat (.int i) :: r) = .ok (.list ([.int a, .int b, .int c, .tuple [.int i], .int e, .int f] ++ [.int a, .int b, .int c, .tuple [.int i], .int e, .int f])) := by
  refine ⟨i + 1, i - 1, 0 - i, i + 2, i * 2, ?_⟩
  have f1 : fits 1 = true := rfl
  have f6 : fits 6 = true := rfl
  have a1 : ∀ j : Int, addD (.int i) (.int j) = some (.int (i + j)) := fun _ => rfl
  have s1 : ∀ j k : Int, subD (.int j) (.int k) = some (.int (j - k)) := fun _ _ => rfl
  have m1 : mulD (.int i) (.int 2) = some (.int (i * 2)) := mulD_sm _ _ (by decide)
  simp only [fOddI, fOp_e, fLst_e, fCons_e, fVar_0, fNil_e, fC_e, Rs.ok_bind, a1, s1, m1, Rs.of_some, fTup_e, List.length_cons, List.length_nil, Nat.zero_add, Nat.reduceAdd, f1, f6, need_true, dbl _ (show List.length [PyData.int (i + 1), .int (i - 1), .int (0 - i), .tuple [.int i], .int (i + 2), .int (i * 2)] ≤ 100 by simp)]
theorem oddB_e (q : Bool) (r : Dl) : ∃ a b c e f : Int, fOddI (.dat (.bool q) :: r) = .ok (.list ([.int a, .int b, .int c, .tuple [.bool q], .int e, .int f] ++ [.int a, .int b, .int c, .tuple [.bool q], .int e, .int f])) := by
  refine ⟨(if q = true then 1 else 0) + 1, (if q = true then 1 else 0) - 1, 0 - (if q = true then 1 else 0), (if q = true then 1 else 0) + 2, (if q = true then 1 else 0) * 2, ?_⟩
  have f1 : fits 1 = true := rfl
  have f6 : fits 6 = true := rfl
  have a1 : ∀ j : Int, addD (.bool q) (.int j) = some (.int ((if q = true then 1 else 0) + j)) := fun _ => rfl
  have s1 : ∀ j : Int, subD (.bool q) (.int j) = some (.int ((if q = true then 1 else 0) - j)) := fun _ => rfl
  have s2 : ∀ j : Int, subD (.int j) (.bool q) = some (.int (j - (if q = true then 1 else 0))) := fun _ => rfl
  have m1 : mulD (.bool q) (.int 2) = some (.int ((if q = true then 1 else 0) * 2)) := rfl
  simp only [fOddI, fOp_e, fLst_e, fCons_e, fVar_0, fNil_e, fC_e, Rs.ok_bind, a1, s1, s2, m1, Rs.of_some, fTup_e, List.length_cons, List.length_nil, Nat.zero_add, Nat.reduceAdd, f1, f6, need_true]
  rw [dbl _ (by simp)]
  rfl
section
variable {tr : Bool} {B : Nat}
theorem oddT_oo {n : Nat} {xs : List D} (h : gdD tr B (n + 1) (.tuple xs) = true) : ∀ x ∈ oddT xs, ooD tr (2 * B + 1) (n + 2) x = true := by
  simp only [gdd_tup, Bool.and_eq_true, decide_eq_true_eq, List.all_eq_true] at h
  have hx : ∀ m, n ≤ m → ∀ x ∈ xs, ooD tr (2 * B + 1) m x = true := fun m hm x hx => gd_oo (by omega) n m hm x (h.2 x hx)
  have hc := fun lo hi => cutL_len xs lo hi
  intro x hxx
  simp only [oddT, List.mem_cons, List.not_mem_nil, or_false] at hxx
  rcases hxx with rfl | rfl | rfl | rfl | rfl | rfl
  · simp only [oo_lst, Bool.and_eq_true, decide_eq_true_eq, List.all_eq_true]
    exact ⟨by omega, hx _ (by omega)⟩
  · simp only [oo_tup, Bool.and_eq_true, decide_eq_true_eq, List.all_eq_true]
    refine ⟨?_, fun y hy => ?_⟩
    · rw [List.length_append]
      have := hc (some (-1)) none
      omega
    · rcases List.mem_append.mp hy with hy | hy
      · exact hx _ (by omega) y hy
      · exact hx _ (by omega) y (cutL_sub hy)
  · simp only [oo_tup, Bool.and_eq_true, decide_eq_true_eq, List.all_eq_true]
    exact ⟨by have := hc none (some (-1)); omega, fun y hy => hx _ (by omega) y (cutL_sub hy)⟩
  · simp only [oo_tup, Bool.and_eq_true, decide_eq_true_eq, List.all_eq_true]
    exact ⟨by rw [List.length_reverse]; omega, fun y hy => hx _ (by omega) y (List.mem_reverse.mp hy)⟩
  · simp only [oo_tup, Bool.and_eq_true, decide_eq_true_eq, List.all_eq_true]
    exact ⟨by have := hc (some 1) none; omega, fun y hy => hx _ (by omega) y (cutL_sub hy)⟩
  · simp only [oo_tup, Bool.and_eq_true, decide_eq_true_eq, List.all_eq_true, List.mem_singleton, forall_eq, List.length_cons, List.length_nil]
    refine ⟨by omega, ?_⟩
    exact ⟨by omega, hx _ (by omega)⟩
end
end Hm
namespace K04
open PySem PySem.Spec PyProof.Rows L2 Hm
def top (i : Nat) : Stmt := PySem.Challenge.pw_handmarks_k04_papers.main.body.getD i (.Pass ⟨0, 0, 0, 0⟩)
abbrev s_order : Stmt := top 1
abbrev N_order : List Str := ["deeds", "behind", "deed", "found", "left", "stamp"]
theorem sc_order : FnScope N_order ["deeds"] (defScope s_order) := ⟨rfl, rfl, rfl, by decide +kernel, rfl, by decide +kernel, by decide +kernel⟩
abbrev s_counts : Stmt := top 2
abbrev N_counts : List Str := ["deeds", "goal", "some", "deed"]
theorem sc_counts : FnScope N_counts ["deeds", "goal"] (defScope s_counts) := ⟨rfl, rfl, rfl, by decide +kernel, rfl, by decide +kernel, by decide +kernel⟩
abbrev s_is_covered : Stmt := top 4
abbrev N_is_covered : List Str := ["places", "mark", "stamp", "kind", "first", "end"]
theorem sc_is_covered : FnScope N_is_covered ["places", "mark", "stamp"] (defScope s_is_covered) := ⟨rfl, rfl, rfl, by decide +kernel, rfl, by decide +kernel, by decide +kernel⟩
abbrev s_places_of : Stmt := top 5
abbrev N_places_of : List Str := ["deeds", "place", "stamp"]
theorem sc_places_of : FnScope N_places_of ["deeds"] (defScope s_places_of) := ⟨rfl, rfl, rfl, by decide +kernel, rfl, by decide +kernel, by decide +kernel⟩
abbrev s_covers : Stmt := top 6
abbrev N_covers : List Str := ["deeds", "mark", "stamp", "found", "deed"]
theorem sc_covers : FnScope N_covers ["deeds", "mark", "stamp"] (defScope s_covers) := ⟨rfl, rfl, rfl, by decide +kernel, rfl, by decide +kernel, by decide +kernel⟩
abbrev s_marks_of : Stmt := top 7
abbrev N_marks_of : List Str := ["deeds", "kind", "deed"]
theorem sc_marks_of : FnScope N_marks_of ["deeds", "kind"] (defScope s_marks_of) := ⟨rfl, rfl, rfl, by decide +kernel, rfl, by decide +kernel, by decide +kernel⟩
abbrev s_first_telling : Stmt := top 8
abbrev N_first_telling : List Str := ["places", "marks", "stamp", "mark"]
theorem sc_first_telling : FnScope N_first_telling ["places", "marks", "stamp"] (defScope s_first_telling) := ⟨rfl, rfl, rfl, by decide +kernel, rfl, by decide +kernel, by decide +kernel⟩
abbrev s_counting_marks : Stmt := top 9
abbrev N_counting_marks : List Str := ["deeds", "kind", "mark"]
theorem sc_counting_marks : FnScope N_counting_marks ["deeds", "kind"] (defScope s_counting_marks) := ⟨rfl, rfl, rfl, by decide +kernel, rfl, by decide +kernel, by decide +kernel⟩
abbrev s_teller : Stmt := top 10
abbrev N_teller : List Str := ["deeds", "stamp", "kind", "found"]
theorem sc_teller : FnScope N_teller ["deeds", "stamp", "kind"] (defScope s_teller) := ⟨rfl, rfl, rfl, by decide +kernel, rfl, by decide +kernel, by decide +kernel⟩
abbrev s_later_marks : Stmt := top 12
abbrev N_later_marks : List Str := ["deeds", "kind", "mark", "deed"]
theorem sc_later_marks : FnScope N_later_marks ["deeds", "kind", "mark"] (defScope s_later_marks) := ⟨rfl, rfl, rfl, by decide +kernel, rfl, by decide +kernel, by decide +kernel⟩
abbrev s_paper : Stmt := top 13
abbrev N_paper : List Str := ["deeds", "stamp", "kind", "mark", "rows", "other"]
theorem sc_paper : FnScope N_paper ["deeds", "stamp", "kind"] (defScope s_paper) := ⟨rfl, rfl, rfl, by decide +kernel, rfl, by decide +kernel, by decide +kernel⟩
abbrev s_is_row : Stmt := top 14
abbrev N_is_row : List Str := ["deeds", "stamp", "other", "thing"]
theorem sc_is_row : FnScope N_is_row ["deeds", "stamp", "other", "thing"] (defScope s_is_row) := ⟨rfl, rfl, rfl, by decide +kernel, rfl, by decide +kernel, by decide +kernel⟩
abbrev s_is_paper : Stmt := top 15
abbrev N_is_paper : List Str := ["deeds", "stamp", "kind", "thing", "mark", "rows", "some", "deed", "later", "other", "row"]
theorem sc_is_paper : FnScope N_is_paper ["deeds", "stamp", "kind", "thing"] (defScope s_is_paper) := ⟨rfl, rfl, rfl, by decide +kernel, rfl, by decide +kernel, by decide +kernel⟩
abbrev s__law_cell : Stmt := top 17
abbrev N__law_cell : List Str := ["script", "k"]
theorem sc__law_cell : FnScope N__law_cell ["script", "k"] (defScope s__law_cell) := ⟨rfl, rfl, rfl, by decide +kernel, rfl, by decide +kernel, by decide +kernel⟩
abbrev s__law_mix : Stmt := top 18
abbrev N__law_mix : List Str := ["cell", "prime", "many", "blend"]
theorem sc__law_mix : FnScope N__law_mix ["cell", "prime", "many"] (defScope s__law_mix) := ⟨rfl, rfl, rfl, by decide +kernel, rfl, by decide +kernel, by decide +kernel⟩
abbrev s__law_same : Stmt := top 19
abbrev N__law_same : List Str := ["found", "due", "one", "other"]
theorem sc__law_same : FnScope N__law_same ["found", "due"] (defScope s__law_same) := ⟨rfl, rfl, rfl, by decide +kernel, rfl, by decide +kernel, by decide +kernel⟩
abbrev s__law_letter : Stmt := top 20
abbrev N__law_letter : List Str := ["cell", "signs"]
theorem sc__law_letter : FnScope N__law_letter ["cell"] (defScope s__law_letter) := ⟨rfl, rfl, rfl, by decide +kernel, rfl, by decide +kernel, by decide +kernel⟩
abbrev s__law_value : Stmt := top 21
abbrev N__law_value : List Str := ["cell", "kind"]
theorem sc__law_value : FnScope N__law_value ["cell", "kind"] (defScope s__law_value) := ⟨rfl, rfl, rfl, by decide +kernel, rfl, by decide +kernel, by decide +kernel⟩
abbrev s__law_deeds : Stmt := top 22
abbrev N__law_deeds : List Str := ["cell", "many", "found", "letters", "others", "number", "k", "seed", "way", "name", "stamp", "some", "ahead", "kind", "first", "end", "goals", "word"]
theorem sc__law_deeds : FnScope N__law_deeds ["cell", "many"] (defScope s__law_deeds) := ⟨rfl, rfl, rfl, by decide +kernel, rfl, by decide +kernel, by decide +kernel⟩
abbrev s__law_order : Stmt := top 23
abbrev N__law_order : List Str := ["deeds", "ahead", "found", "deed"]
theorem sc__law_order : FnScope N__law_order ["deeds", "ahead"] (defScope s__law_order) := ⟨rfl, rfl, rfl, by decide +kernel, rfl, by decide +kernel, by decide +kernel⟩
abbrev s__law_counts : Stmt := top 24
abbrev N__law_counts : List Str := ["deeds", "goal", "is_on", "deed"]
theorem sc__law_counts : FnScope N__law_counts ["deeds", "goal"] (defScope s__law_counts) := ⟨rfl, rfl, rfl, by decide +kernel, rfl, by decide +kernel, by decide +kernel⟩
abbrev s__law_covers : Stmt := top 25
abbrev N__law_covers : List Str := ["row", "mark", "stamp", "kind", "first", "end", "last"]
theorem sc__law_covers : FnScope N__law_covers ["row", "mark", "stamp"] (defScope s__law_covers) := ⟨rfl, rfl, rfl, by decide +kernel, rfl, by decide +kernel, by decide +kernel⟩
abbrev s__law_teller : Stmt := top 26
abbrev N__law_teller : List Str := ["deeds", "row", "stamp", "kind", "found", "deed"]
theorem sc__law_teller : FnScope N__law_teller ["deeds", "row", "stamp", "kind"] (defScope s__law_teller) := ⟨rfl, rfl, rfl, by decide +kernel, rfl, by decide +kernel, by decide +kernel⟩
abbrev s__law_odd : Stmt := top 27
abbrev N__law_odd : List Str := ["thing", "cell", "at", "some"]
theorem sc__law_odd : FnScope N__law_odd ["thing", "cell"] (defScope s__law_odd) := ⟨rfl, rfl, rfl, by decide +kernel, rfl, by decide +kernel, by decide +kernel⟩
abbrev s__law_why : Stmt := top 28
abbrev N__law_why : List Str := ["deeds", "row", "stamp", "mark", "found"]
theorem sc__law_why : FnScope N__law_why ["deeds", "row", "stamp", "mark"] (defScope s__law_why) := ⟨rfl, rfl, rfl, by decide +kernel, rfl, by decide +kernel, by decide +kernel⟩
abbrev s__law_is_paper : Stmt := top 29
abbrev N__law_is_paper : List Str := ["deeds", "row", "stamp", "kind", "thing", "marks", "deed", "mine", "mark", "later", "one"]
theorem sc__law_is_paper : FnScope N__law_is_paper ["deeds", "row", "stamp", "kind", "thing"] (defScope s__law_is_paper) := ⟨rfl, rfl, rfl, by decide +kernel, rfl, by decide +kernel, by decide +kernel⟩
abbrev s_law : Stmt := top 30
abbrev N_law : List Str := ["script", "k", "cell", "deeds", "row", "j", "stamp", "kind", "mark", "told", "marks", "deed", "later", "due", "some", "one", "word", "n", "thing", "said"]
theorem sc_law : FnScope N_law ["script"] (defScope s_law) := ⟨rfl, rfl, rfl, by decide +kernel, rfl, by decide +kernel, by decide +kernel⟩
structure Txt (K : PySem.W.Frag) (w : World) (mg : Str → Option Value) : Prop where
  d_order : Df K mg "order" s_order ["deeds"]
  d_counts : Df K mg "counts" s_counts ["deeds", "goal"]
  d_is_covered : Df K mg "is_covered" s_is_covered ["places", "mark", "stamp"]
  d_places_of : Df K mg "places_of" s_places_of ["deeds"]
  d_covers : Df K mg "covers" s_covers ["deeds", "mark", "stamp"]
  d_marks_of : Df K mg "marks_of" s_marks_of ["deeds", "kind"]
  d_first_telling : Df K mg "first_telling" s_first_telling ["places", "marks", "stamp"]
  d_counting_marks : Df K mg "counting_marks" s_counting_marks ["deeds", "kind"]
  d_teller : Df K mg "teller" s_teller ["deeds", "stamp", "kind"]
  d_later_marks : Df K mg "later_marks" s_later_marks ["deeds", "kind", "mark"]
  d_paper : Df K mg "paper" s_paper ["deeds", "stamp", "kind"]
  d_is_row : Df K mg "is_row" s_is_row ["deeds", "stamp", "other", "thing"]
  d_is_paper : Df K mg "is_paper" s_is_paper ["deeds", "stamp", "kind", "thing"]
  d__law_cell : Df K mg "_law_cell" s__law_cell ["script", "k"]
  d__law_mix : Df K mg "_law_mix" s__law_mix ["cell", "prime", "many"]
  d__law_same : Df K mg "_law_same" s__law_same ["found", "due"]
  d__law_letter : Df K mg "_law_letter" s__law_letter ["cell"]
  d__law_value : Df K mg "_law_value" s__law_value ["cell", "kind"]
  d__law_deeds : Df K mg "_law_deeds" s__law_deeds ["cell", "many"]
  d__law_order : Df K mg "_law_order" s__law_order ["deeds", "ahead"]
  d__law_counts : Df K mg "_law_counts" s__law_counts ["deeds", "goal"]
  d__law_covers : Df K mg "_law_covers" s__law_covers ["row", "mark", "stamp"]
  d__law_teller : Df K mg "_law_teller" s__law_teller ["deeds", "row", "stamp", "kind"]
  d__law_odd : Df K mg "_law_odd" s__law_odd ["thing", "cell"]
  d__law_why : Df K mg "_law_why" s__law_why ["deeds", "row", "stamp", "mark"]
  d__law_is_paper : Df K mg "_law_is_paper" s__law_is_paper ["deeds", "row", "stamp", "kind", "thing"]
  d_law : Df K mg "law" s_law ["script"]
  z_all : mg "all" = none
  z_bool : mg "bool" = none
  z_dict : mg "dict" = none
  z_enumerate : mg "enumerate" = none
  z_int : mg "int" = none
  z_isinstance : mg "isinstance" = none
  z_len : mg "len" = none
  z_list : mg "list" = none
  z_max : mg "max" = none
  z_min : mg "min" = none
  z_range : mg "range" = none
  z_sorted : mg "sorted" = none
  z_str : mg "str" = none
  z_tuple : mg "tuple" = none
  z_zip : mg "zip" = none

def g__law_odd (F : List D → Rs D) : Fs := (gSeq (gIf (bAnd (bTr (fIsi .tuple (fVar 0))) (bAnd (bOf (fOp neD (fVar 0) (fTup fNil))) (bOf (fOp gtD (fCallF Fn.F__law_mix (fCons (fVar 1) (fCons (fC (.int 9781)) (fCons (fC (.int 5)) fNil)))) (fC (.int 0))))))
    (gSeq (gSet 2 (fCallF Fn.F__law_mix (fCons (fVar 1) (fCons (fC (.int 9769)) (fCons (fCall (g1 lenD) (fCons (fVar 0) fNil)) fNil)))))
    (gRet (fOp addD (fOp addD (fSl (fVar 0) foNo (foSome (fVar 2))) (fTup (fCons (fCallF F (fCons (fOp ixD (fVar 0) (fVar 2)) (fCons (fOp addD (fOp addD (fVar 1) (fOp mulD (fC (.int 31)) (fVar 2))) (fC (.int 7))) fNil))) fNil))) (fSl (fVar 0) (foSome (fOp addD (fVar 2) (fC (.int 1)))) foNo))))
    gNx)
    (gSeq (gSet 3 (fLst (fCons (fC .none) (fCons (fC .none) (fCons (fC (.bool false)) (fCons (fC (.int 0)) (fCons (fC (.int 1)) (fCons (fNeg (fC (.int 1))) (fCons (fC (.int 2)) (fCons (fC (.int 7)) (fCons (fC (.int 10)) (fCons (fC (.int 1000)) (fCons (fC (.str "")) (fCons (fC (.str "a")) (fCons (fC (.str "A")) (fCons (fTup fNil) (fCons (fTup (fCons (fC (.str "a")) fNil)) (fCons (fLst (fCons (fC (.int 1)) fNil)) fNil))))))))))))))))))
    (gSeq (gIf (bTr (fIsi .tuple (fVar 0)))
    (gSet 3 (fOp addD (fVar 3) (fOp mulD (fLst (fCons (fCall (g1 listD) (fCons (fVar 0) fNil)) (fCons (fOp addD (fVar 0) (fSl (fVar 0) (foSome (fNeg (fC (.int 1)))) foNo)) (fCons (fSl (fVar 0) foNo (foSome (fNeg (fC (.int 1))))) (fCons (fRev (fVar 0)) (fCons (fSl (fVar 0) (foSome (fC (.int 1))) foNo) (fCons (fTup (fCons (fVar 0) fNil)) fNil))))))) (fC (.int 2)))))
    (gIf (bTr (fIsi .str (fVar 0)))
    (gSet 3 (fOp addD (fVar 3) (fOp mulD (fLst (fCons (fOp addD (fVar 0) (fC (.str "a"))) (fCons (fSl (fVar 0) foNo (foSome (fNeg (fC (.int 1))))) (fCons (fUp (fVar 0)) (fCons (fOp addD (fVar 0) (fC (.str " "))) (fCons (fOp mulD (fVar 0) (fC (.int 2))) (fCons (fLst (fCons (fVar 0) fNil)) (fCons (fOp addD (fVar 0) (fSl (fVar 0) foNo (foSome (fC (.int 1))))) fNil)))))))) (fC (.int 2)))))
    (gIf (bTr (fIsi .int (fVar 0)))
    (gSet 3 (fOp addD (fVar 3) (fOp mulD (fLst (fCons (fOp addD (fVar 0) (fC (.int 1))) (fCons (fOp subD (fVar 0) (fC (.int 1))) (fCons (fOp subD (fC (.int 0)) (fVar 0)) (fCons (fTup (fCons (fVar 0) fNil)) (fCons (fOp addD (fVar 0) (fC (.int 2))) (fCons (fOp mulD (fVar 0) (fC (.int 2))) fNil))))))) (fC (.int 2)))))
    gNx)))
    (gRet (fOp ixD (fVar 3) (fCallF Fn.F__law_mix (fCons (fVar 1) (fCons (fC (.int 9749)) (fCons (fCall (g1 lenD) (fCons (fVar 3) fNil)) fNil)))))))))
def F__law_odd : Nat → List D → Rs D
  | 0 => fun _ => .bad
  | n + 1 => fnD 4 [.da, .da] (g__law_odd (F__law_odd n))
def b1_law : Fs := (gSeq (gPar 19 13 (fCallF Fn.F_is_paper (fCons (fVar 3) (fCons (fVar 6) (fCons (fVar 7) (fCons (fVar 18) fNil))))) (fCallF Fn.F__law_is_paper (fCons (fVar 3) (fCons (fVar 4) (fCons (fVar 6) (fCons (fVar 7) (fCons (fVar 18) fNil)))))))
    (gIf (bOr (bAnd (bOf (fOp isNotD (fVar 19) (fC (.bool true)))) (bTr (fVar 13))) (bAnd (bOf (fOp isNotD (fVar 19) (fC (.bool false)))) (bNot (bTr (fVar 13)))))
    (gRet (fC (.bool false)))
    gNx))
def b2_law : Fs := (gApp 14 (fCallF (F__law_odd 8) (fCons (fVar 9) (fCons (fOp addD (fOp addD (fCallF Fn.F__law_cell (fCons (fSn 0) (fCons (fC (.int 7)) fNil))) (fOp mulD (fC (.int 17)) (fVar 17))) (fOp mulD (fC (.int 5)) (fVar 1))) fNil))))
def c1_law : Fe := (fLc [11] (fIt (fVar 12)) (ftN 11) tYesF (fTup (fCons (fOp ixD (fVar 11) (fC (.int 1))) (fCons (fTup fNil) fNil))))
def c2_law : Fe := (fLc [15, 16] (fIt (fOp ixD (fVar 9) (fC (.int 1)))) (ftT [15, 16]) tYesF (fTup (fCons (fVar 15) (fCons (fUn (kixD "off" "apart" (.str "apart") (.str "off")) (fVar 16)) fNil))))
def c3_law : Fe := (fLc [11] (fIt (fVar 12)) (ftN 11) tYesF (fTup (fCons (fOp ixD (fVar 11) (fC (.int 1))) (fCons (fOp ixD (fCallF Fn.F__law_why (fCons (fVar 3) (fCons (fVar 4) (fCons (fVar 6) (fCons (fVar 11) fNil))))) (fC (.int 0))) fNil))))
def c4_law : Fe := (fLc [11] (fIt (fVar 10)) (ftN 11) (bOr (bOf (fOp isD (fVar 8) (fC .none))) (bOf (fOp gtD (fOp ixD (fVar 11) (fC (.int 1))) (fOp ixD (fVar 8) (fC (.int 1)))))) (fVar 11))
def c5_law : Fe := (fLc [11] (fIt (fVar 3)) (ftN 11) (bAnd (bOf (fOp eqD (fOp ixD (fVar 11) (fC (.int 0))) (fC (.str "mark")))) (bOf (fOp eqD (fOp ixD (fVar 11) (fC (.int 2))) (fVar 7)))) (fVar 11))
def b3_law : Fs := (gSeq (gSet 8 (fCallF Fn.F__law_teller (fCons (fVar 3) (fCons (fVar 4) (fCons (fVar 6) (fCons (fVar 7) fNil))))))
    (gSeq (gSet 9 (fCallF Fn.F_paper (fCons (fVar 3) (fCons (fVar 6) (fCons (fVar 7) fNil)))))
    (gSeq (gSet 10 c5_law)
    (gSeq (gSet 12 c4_law)
    (gSeq (gSet 13 (fCall (g1 tupleD) (fCons c3_law fNil)))
    (gSeq (gIf (bNot (bTr (fCallF (Fn.F__law_same 8) (fCons (fVar 9) (fCons (fTup (fCons (fIf (bOf (fOp isD (fVar 8) (fC .none))) (fC .none) (fOp ixD (fVar 8) (fC (.int 1)))) (fCons (fVar 13) fNil))) fNil)))))
    (gRet (fC (.bool false)))
    gNx)
    (gSeq (gOwn 14 (fLst (fCons (fVar 9) (fCons (fC .none) (fCons (fTup fNil) fNil)))))
    (gSeq (gOwn 14 (fOp addD (fSn 14) (fLst (fCons (fTup (fCons (fC .none) (fCons (fTup fNil) fNil))) (fCons (fCallF Fn.F_paper (fCons (fVar 3) (fCons (fOp ixD (fVar 4) (fC (.int 0))) (fCons (fVar 7) fNil)))) fNil)))))
    (gSeq (gOwn 14 (fOp addD (fSn 14) (fLst (fCons (fCallF Fn.F_paper (fCons (fVar 3) (fCons (fVar 6) (fCons (fC (.str "bold")) fNil)))) fNil))))
    (gSeq (gApp 14 (fTup (fCons (fOp ixD (fVar 9) (fC (.int 0))) (fCons (fCall (g1 tupleD) (fCons c2_law fNil)) fNil))))
    (gSeq (gOwn 14 (fOp addD (fSn 14) (fLst (fCons (fTup (fCons (fOp ixD (fVar 9) (fC (.int 0))) (fCons (fSl (fOp ixD (fVar 9) (fC (.int 1))) (foSome (fC (.int 1))) foNo) fNil))) (fCons (fTup (fCons (fOp ixD (fVar 9) (fC (.int 0))) (fCons (fRev (fOp ixD (fVar 9) (fC (.int 1)))) fNil))) fNil)))))
    (gSeq (gOwn 14 (fOp addD (fSn 14) (fLst (fCons (fTup (fCons (fOp ixD (fVar 9) (fC (.int 0))) (fCons (fOp addD (fOp ixD (fVar 9) (fC (.int 1))) (fOp ixD (fVar 9) (fC (.int 1)))) fNil))) fNil))))
    (gSeq (gOwn 14 (fOp addD (fSn 14) c1_law))
    (gSeq (gFor (rng1 (fC (.int 6))) (ftN 17) b2_law)
    (gSeq (gFrz 14) (gFor (fIt (fVar 14)) (ftN 18) b1_law))))))))))))))))
def b4_law : Fs := (gSeq (gSet 6 (fOp ixD (fVar 4) (fCallF Fn.F__law_mix (fCons (fOp addD (fOp addD (fCallF Fn.F__law_cell (fCons (fSn 0) (fCons (fC (.int 6)) fNil))) (fOp mulD (fC (.int 7)) (fVar 5))) (fVar 1)) (fCons (fC (.int 9829)) (fCons (fCall (g1 lenD) (fCons (fVar 4) fNil)) fNil))))))
    (gFor (fIt (fTup (fCons (fC (.str "bold")) (fCons (fC (.str "link")) fNil)))) (ftN 7) b3_law))
def b5_law : Fs := (gSeq (gSet 2 (fOp addD (fCallF Fn.F__law_cell (fCons (fSn 0) (fCons (fVar 1) fNil))) (fOp mulD (fC (.int 3)) (fVar 1))))
    (gSeq (gSet 3 (fCallF Fn.F__law_deeds (fCons (fVar 2) (fCons (fCallF Fn.F__law_mix (fCons (fVar 2) (fCons (fC (.int 9833)) (fCons (fC (.int 25)) fNil)))) fNil))))
    (gSeq (gSet 4 (fCallF (Fn.F__law_order 30) (fCons (fVar 3) (fCons (fC .none) fNil))))
    (gFor (rng1 (fCall (g2 minD) (fCons (fC (.int 3)) (fCons (fCall (g1 lenD) (fCons (fVar 4) fNil)) fNil)))) (ftN 5) b4_law))))
def g_law : Fs := (gSeq (gFor (rng1 (fC (.int 6))) (ftN 1) b5_law)
    (gRet (fOp eqD (fCallF Fn.F_paper (fCons (fTup (fCons (fTup (fCons (fC (.str "write")) (fCons (fTup (fCons (fC (.int 1)) (fCons (fC (.str "a")) fNil))) (fCons (fC .none) (fCons (fC (.str "x")) fNil))))) fNil)) (fCons (fTup (fCons (fC (.int 1)) (fCons (fC (.str "a")) fNil))) (fCons (fC (.str "bold")) fNil)))) (fTup (fCons (fC .none) (fCons (fTup fNil) fNil))))))
def F_law : List D → Rs D := fnD 20 [.sn] g_law
section
variable {P : Program} {w : World} {K : PySem.W.Frag} {mg : Str → Option Value}
theorem ok_order (T : Txt K w mg) : Ok P w K mg "order" ["deeds"] 1 [.da] Fn.F_order := by
  have nd := sc_order.nd
  refine T.d_order.ok sc_order rfl (by decide) fun base f cdv A outer s H E hr => ?_
  have hu := hr.units
  exact (es_cons (es_own2 (i := 1) nd rfl (Or.inl rfl))
      (es_cons (es_for PassesOwn.never rfl (ei_seq (ed_var (i := 0) rfl (Or.inl rfl))) (gs_name (show 2 < N_order.length by decide)) (pg_name (i := 2) nd rfl (Or.inl rfl))
      (es_one (es_if (et_cmp (od_eq hu) (ed_sn (ed_ix hu (ed_sn (ed_var (i := 2) rfl (Or.inl rfl))) (ed_sn ed_int) (fun _ _ => rfl))) (ed_sn ed_str) rfl)
      (es_one (es_sda (i := 1) hu rfl (Or.inl rfl) (ed_ix hu (ed_sn (ed_var (i := 2) rfl (Or.inl rfl))) (ed_sn ed_int) (fun _ _ => rfl)) (ed_ix hu (ed_sn (ed_var (i := 2) rfl (Or.inl rfl))) (ed_sn ed_int) (fun _ _ => rfl)) ⟨rfl, rfl, rfl, rfl⟩))
      es_nil)))
      (es_cons (es_own (i := 3) nd rfl (Or.inl rfl) (ed_lst ea_nil))
      (es_cons (es_own (i := 4) nd rfl (Or.inl rfl) (ed_callB (cd_sorted hu rfl) rfl T.z_sorted (by decide +kernel) (ea_sn (ed_get2 (i := 1) hu rfl (Or.inl rfl) (ed_sn ed_non) ⟨rfl, rfl, rfl, rfl⟩) ea_nil)))
      (es_cons (es_while (fun _ => 2000) PassesOwn.never (et_tr (ed_snv (i := 4) rfl (Or.inl rfl)))
      (es_cons (es_pop (i := 4) (j := 5) nd rfl (Or.inl rfl) rfl (Or.inl rfl))
      (es_cons (es_app (i := 3) rfl (Or.inl rfl) (ed_var (i := 5) rfl (Or.inl rfl)))
      (es_one (es_ext (i := 4) rfl (Or.inl rfl) (ed_callB (cd_sorted hu rfl) rfl T.z_sorted (by decide +kernel) (ea_sn (ed_get2 (i := 1) hu rfl (Or.inl rfl) (ed_sn (ed_var (i := 5) rfl (Or.inl rfl))) ⟨rfl, rfl, rfl, rfl⟩) ea_nil)))))))
      (es_one (es_ret (ed_fz (ed_callTy (cd_tuple) rfl T.z_tuple (by decide +kernel) (ea_sn (ed_snv (i := 3) rfl (Or.inl rfl)) ea_nil))))))))))
theorem ok_counts (T : Txt K w mg) : Ok P w K mg "counts" ["deeds", "goal"] 1 [.da, .da] Fn.F_counts := by
  have nd := sc_counts.nd
  refine T.d_counts.ok sc_counts rfl (by decide) fun base f cdv A outer s H E hr => ?_
  have hu := hr.units
  exact (es_cons (es_fz fLc_list (show 2 < N_counts.length by decide) (es_setLc (i := 2) (own := [("deed", 3)]) (g := (gName 3)) rfl nd rfl rfl (sw_true rfl rfl rfl (by decide +kernel)) (ei_seq (ed_var (i := 0) rfl (Or.inl rfl))) (blkOk_by (N := N_counts) (sc := (defScope s_counts)) (by decide +kernel)) (show ∀ v ∈ [3], v < N_counts.length by decide) (gd_name (show 3 < N_counts.length by decide) (by decide)) (fun _ _ _ _ _ => (pg_name (i := 3) nd rfl (Or.inl rfl))) (fun _ _ _ _ _ => (ets_one (PW.pt (ew_and (et_cmp (od_in hu) (ed_sn (ed_ix hu (ed_sn (ed_var (i := 3) rfl (Or.inl rfl))) (ed_sn ed_int) (fun _ _ => rfl))) (ed_sn (ed_tup (ea_da (ed_fz ed_str) (ea_da (ed_fz ed_str) ea_nil)))) rfl) (ew_and1 (et_cmp (od_eq hu) (ed_sn (ed_ix hu (ed_sn (ed_var (i := 3) rfl (Or.inl rfl))) (ed_sn ed_int) (fun _ _ => rfl))) (ed_sn (ed_var (i := 1) rfl (Or.inr (Or.inl rfl)))) rfl)))))) (fun _ _ _ _ _ => (ed_fz (ed_op od_add (ed_sn (ed_sl (ed_sn (ed_var (i := 3) rfl (Or.inl rfl))) (eo_some (ed_sn ed_int)) (eo_some (ed_sn ed_int)))) (ed_sn (ed_sl (ed_sn (ed_var (i := 3) rfl (Or.inl rfl))) eo_no (eo_some (ed_sn ed_int)))))))))
      (es_one (es_ret (ed_fz (ed_or (ed_sn (ed_not (ed_sn (ed_var (i := 2) rfl (Or.inl rfl))))) (ed_b1 (ed_sn (ed_cmp (od_eq hu) (ed_sn (ed_ix hu (ed_sn (ed_max hu rfl rfl T.z_max (ea_sn (ed_sn (ed_var (i := 2) rfl (Or.inl rfl))) ea_nil))) (ed_sn ed_int) (fun _ _ => rfl))) (ed_sn ed_str) rfl))))))))
theorem ok_is_covered (T : Txt K w mg) : Ok P w K mg "is_covered" ["places", "mark", "stamp"] 1 [.da, .da, .da] Fn.F_is_covered := by
  have nd := sc_is_covered.nd
  refine T.d_is_covered.ok sc_is_covered rfl (by decide) fun base f cdv A outer s H E hr => ?_
  have hu := hr.units
  exact (es_cons (es_tup (js := [3, 4, 5]) (show ∀ j ∈ [3, 4, 5], j < N_is_covered.length by decide) (ed_fz (ed_sl (ed_sn (ed_var (i := 1) rfl (Or.inl rfl))) (eo_some (ed_sn ed_int)) (eo_some (ed_sn ed_int)))) (pg_tup rfl (pgs_cons (pg_name (i := 3) nd rfl (Or.inl rfl)) (pgs_cons (pg_name (i := 4) nd rfl (Or.inl rfl)) (pgs_cons (pg_name (i := 5) nd rfl (Or.inl rfl)) pgs_nil)))))
      (es_cons (es_if (et_cmp (od_lt hu) (ed_sn (ed_ix hu (ed_sn (ed_var (i := 0) rfl (Or.inl rfl))) (ed_sn (ed_var (i := 2) rfl (Or.inl rfl))) (fun _ _ => rfl))) (ed_sn (ed_ix hu (ed_sn (ed_var (i := 0) rfl (Or.inl rfl))) (ed_sn (ed_var (i := 4) rfl (Or.inl rfl))) (fun _ _ => rfl))) rfl)
      (es_one (es_ret (ed_fz ed_bl)))
      es_nil)
      (es_cons (es_if (et_cmp (od_eq hu) (ed_sn (ed_var (i := 3) rfl (Or.inl rfl))) (ed_sn ed_str) rfl)
      (es_one (es_ret (ed_fz (ed_cmp od_le (ed_sn (ed_ix hu (ed_sn (ed_var (i := 0) rfl (Or.inl rfl))) (ed_sn (ed_var (i := 2) rfl (Or.inl rfl))) (fun _ _ => rfl))) (ed_sn (ed_ix hu (ed_sn (ed_var (i := 0) rfl (Or.inl rfl))) (ed_sn (ed_var (i := 5) rfl (Or.inl rfl))) (fun _ _ => rfl))) rfl))))
      es_nil)
      (es_one (es_ret (ed_fz (ed_or (ed_sn (ed_cmp od_is (ed_sn (ed_var (i := 5) rfl (Or.inl rfl))) (ed_sn ed_non) rfl)) (ed_b1 (ed_sn (ed_cmp (od_lt hu) (ed_sn (ed_ix hu (ed_sn (ed_var (i := 0) rfl (Or.inl rfl))) (ed_sn (ed_var (i := 2) rfl (Or.inl rfl))) (fun _ _ => rfl))) (ed_sn (ed_ix hu (ed_sn (ed_var (i := 0) rfl (Or.inl rfl))) (ed_sn (ed_var (i := 5) rfl (Or.inl rfl))) (fun _ _ => rfl))) rfl))))))))))
theorem ok_places_of (T : Txt K w mg) : Ok P w K mg "places_of" ["deeds"] 2 [.da] Fn.F_places_of := by
  have o_order := ok_order (P := P) T
  have nd := sc_places_of.nd
  refine T.d_places_of.ok sc_places_of rfl (by decide) fun base f cdv A outer s H E hr => ?_
  have hu := hr.units
  exact (es_one (es_ret (ed_fz (ed_callTy (cd_dict hu rfl) rfl T.z_dict (by decide +kernel) (ea_sn (ed_sn (ed_lc (own := [("place", 1), ("stamp", 2)]) (g := (gTup K 2 (gNames [1, 2]))) rfl nd (ei_enum (ed_call o_order (hr.mono (by omega)) rfl (ea_da (ed_var (i := 0) rfl (Or.inl rfl)) ea_nil)) rfl T.z_enumerate) (blkOk_by (N := N_places_of) (sc := (defScope s_places_of)) (by decide +kernel)) (show ∀ v ∈ [1, 2], v < N_places_of.length by decide) (gd_tup (show ∀ j ∈ [1, 2], j < N_places_of.length ∧ j ∈ [1, 2] by decide)) (fun _ _ _ _ _ => (pg_tup rfl (pgs_cons (pg_name (i := 1) nd rfl (Or.inl rfl)) (pgs_cons (pg_name (i := 2) nd rfl (Or.inl rfl)) pgs_nil)))) (fun _ _ _ _ _ => ets_nil) (fun _ _ _ _ _ => (ed_fz (ed_tup (ea_da (ed_var (i := 2) rfl (Or.inl rfl)) (ea_da (ed_var (i := 1) rfl (Or.inl rfl)) ea_nil))))))) ea_nil)))))
theorem ok_covers (T : Txt K w mg) : Ok P w K mg "covers" ["deeds", "mark", "stamp"] 3 [.da, .da, .da] Fn.F_covers := by
  have o_is_covered := ok_is_covered (P := P) T
  have o_places_of := ok_places_of (P := P) T
  have nd := sc_covers.nd
  refine T.d_covers.ok sc_covers rfl (by decide) fun base f cdv A outer s H E hr => ?_
  have hu := hr.units
  exact (es_cons (es_set (i := 3) nd rfl (Or.inl rfl) (ed_ix hu (ed_sn (ed_lc (own := [("deed", 4)]) (g := (gName 4)) rfl nd (ei_seq (ed_var (i := 0) rfl (Or.inl rfl))) (blkOk_by (N := N_covers) (sc := (defScope s_covers)) (by decide +kernel)) (show ∀ v ∈ [4], v < N_covers.length by decide) (gd_name (show 4 < N_covers.length by decide) (by decide)) (fun _ _ _ _ _ => (pg_name (i := 4) nd rfl (Or.inl rfl))) (fun _ _ _ _ _ => (ets_one (et_cmp (od_eq hu) (ed_sn (ed_ix hu (ed_sn (ed_var (i := 4) rfl (Or.inl rfl))) (ed_sn ed_int) (fun _ _ => rfl))) (ed_sn (ed_var (i := 1) rfl (Or.inr (Or.inl rfl)))) rfl))) (fun _ _ _ _ _ => (ed_var (i := 4) rfl (Or.inl rfl))))) (ed_sn ed_int) (fun _ _ => rfl)))
      (es_one (es_ret (ed_call o_is_covered (hr.mono (by omega)) rfl (ea_da (ed_call o_places_of (hr.mono (by omega)) rfl (ea_da (ed_var (i := 0) rfl (Or.inl rfl)) ea_nil)) (ea_da (ed_var (i := 3) rfl (Or.inl rfl)) (ea_da (ed_var (i := 2) rfl (Or.inl rfl)) ea_nil)))))))
theorem ok_marks_of (T : Txt K w mg) : Ok P w K mg "marks_of" ["deeds", "kind"] 1 [.da, .da] Fn.F_marks_of := by
  have nd := sc_marks_of.nd
  refine T.d_marks_of.ok sc_marks_of rfl (by decide) fun base f cdv A outer s H E hr => ?_
  have hu := hr.units
  exact (es_one (es_ret (ed_fz (ed_rev (ed_sn (ed_lc (own := [("deed", 2)]) (g := (gName 2)) rfl nd (ei_seq (ed_var (i := 0) rfl (Or.inl rfl))) (blkOk_by (N := N_marks_of) (sc := (defScope s_marks_of)) (by decide +kernel)) (show ∀ v ∈ [2], v < N_marks_of.length by decide) (gd_name (show 2 < N_marks_of.length by decide) (by decide)) (fun _ _ _ _ _ => (pg_name (i := 2) nd rfl (Or.inl rfl))) (fun _ _ _ _ _ => (ets_one (PW.pt (ew_and (et_cmp (od_eq hu) (ed_sn (ed_ix hu (ed_sn (ed_var (i := 2) rfl (Or.inl rfl))) (ed_sn ed_int) (fun _ _ => rfl))) (ed_sn ed_str) rfl) (ew_and1 (et_cmp (od_eq hu) (ed_sn (ed_ix hu (ed_sn (ed_var (i := 2) rfl (Or.inl rfl))) (ed_sn ed_int) (fun _ _ => rfl))) (ed_sn (ed_var (i := 1) rfl (Or.inr (Or.inl rfl)))) rfl)))))) (fun _ _ _ _ _ => (ed_var (i := 2) rfl (Or.inl rfl)))))))))
theorem ok_first_telling (T : Txt K w mg) : Ok P w K mg "first_telling" ["places", "marks", "stamp"] 2 [.da, .da, .da] Fn.F_first_telling := by
  have o_is_covered := ok_is_covered (P := P) T
  have nd := sc_first_telling.nd
  refine T.d_first_telling.ok sc_first_telling rfl (by decide) fun base f cdv A outer s H E hr => ?_
  have hu := hr.units
  exact (es_cons (es_for PassesOwn.never rfl (ei_seq (ed_var (i := 1) rfl (Or.inl rfl))) (gs_name (show 3 < N_first_telling.length by decide)) (pg_name (i := 3) nd rfl (Or.inl rfl))
      (es_one (es_if (et_tr (ed_sn (ed_call o_is_covered (hr.mono (by omega)) rfl (ea_da (ed_var (i := 0) rfl (Or.inl rfl)) (ea_da (ed_var (i := 3) rfl (Or.inl rfl)) (ea_da (ed_var (i := 2) rfl (Or.inl rfl)) ea_nil))))))
      (es_one (es_ret (ed_var (i := 3) rfl (Or.inl rfl))))
      es_nil)))
      (es_one (es_ret (ed_fz ed_non))))
theorem ok_counting_marks (T : Txt K w mg) : Ok P w K mg "counting_marks" ["deeds", "kind"] 2 [.da, .da] Fn.F_counting_marks := by
  have o_counts := ok_counts (P := P) T
  have o_marks_of := ok_marks_of (P := P) T
  have nd := sc_counting_marks.nd
  refine T.d_counting_marks.ok sc_counting_marks rfl (by decide) fun base f cdv A outer s H E hr => ?_
  have hu := hr.units
  exact (es_one (es_ret (ed_fz (ed_lc (own := [("mark", 2)]) (g := (gName 2)) rfl nd (ei_seq (ed_call o_marks_of (hr.mono (by omega)) rfl (ea_da (ed_var (i := 0) rfl (Or.inr (Or.inl rfl))) (ea_da (ed_var (i := 1) rfl (Or.inl rfl)) ea_nil)))) (blkOk_by (N := N_counting_marks) (sc := (defScope s_counting_marks)) (by decide +kernel)) (show ∀ v ∈ [2], v < N_counting_marks.length by decide) (gd_name (show 2 < N_counting_marks.length by decide) (by decide)) (fun _ _ _ _ _ => (pg_name (i := 2) nd rfl (Or.inl rfl))) (fun _ _ _ _ _ => (ets_one (et_tr (ed_sn (ed_call o_counts (hr.mono (by omega)) rfl (ea_da (ed_var (i := 0) rfl (Or.inr (Or.inl rfl))) (ea_da (ed_ix hu (ed_sn (ed_var (i := 2) rfl (Or.inl rfl))) (ed_sn ed_int) (fun _ _ => rfl)) ea_nil))))))) (fun _ _ _ _ _ => (ed_var (i := 2) rfl (Or.inl rfl)))))))
theorem ok_teller (T : Txt K w mg) : Ok P w K mg "teller" ["deeds", "stamp", "kind"] 3 [.da, .da, .da] Fn.F_teller := by
  have o_counting_marks := ok_counting_marks (P := P) T
  have o_first_telling := ok_first_telling (P := P) T
  have o_places_of := ok_places_of (P := P) T
  have nd := sc_teller.nd
  refine T.d_teller.ok sc_teller rfl (by decide) fun base f cdv A outer s H E hr => ?_
  have hu := hr.units
  exact (es_cons (es_set (i := 3) nd rfl (Or.inl rfl) (ed_call o_first_telling (hr.mono (by omega)) rfl (ea_da (ed_call o_places_of (hr.mono (by omega)) rfl (ea_da (ed_var (i := 0) rfl (Or.inl rfl)) ea_nil)) (ea_da (ed_call o_counting_marks (hr.mono (by omega)) rfl (ea_da (ed_var (i := 0) rfl (Or.inl rfl)) (ea_da (ed_var (i := 2) rfl (Or.inl rfl)) ea_nil))) (ea_da (ed_var (i := 1) rfl (Or.inl rfl)) ea_nil)))))
      (es_cons (es_if (et_cmp od_is (ed_sn (ed_var (i := 3) rfl (Or.inl rfl))) (ed_sn ed_non) rfl)
      (es_one (es_ret (ed_fz ed_non)))
      es_nil)
      (es_one (es_ret (ed_ix hu (ed_sn (ed_var (i := 3) rfl (Or.inl rfl))) (ed_sn ed_int) (fun _ _ => rfl))))))
theorem ok_later_marks (T : Txt K w mg) : Ok P w K mg "later_marks" ["deeds", "kind", "mark"] 2 [.da, .da, .da] Fn.F_later_marks := by
  have o_marks_of := ok_marks_of (P := P) T
  have nd := sc_later_marks.nd
  refine T.d_later_marks.ok sc_later_marks rfl (by decide) fun base f cdv A outer s H E hr => ?_
  have hu := hr.units
  exact (es_one (es_ret (ed_fz (ed_callB (cd_sorted hu rfl) rfl T.z_sorted (by decide +kernel) (ea_sn (ed_sn (ed_lc (own := [("deed", 3)]) (g := (gName 3)) rfl nd (ei_seq (ed_call o_marks_of (hr.mono (by omega)) rfl (ea_da (ed_var (i := 0) rfl (Or.inl rfl)) (ea_da (ed_var (i := 1) rfl (Or.inl rfl)) ea_nil)))) (blkOk_by (N := N_later_marks) (sc := (defScope s_later_marks)) (by decide +kernel)) (show ∀ v ∈ [3], v < N_later_marks.length by decide) (gd_name (show 3 < N_later_marks.length by decide) (by decide)) (fun _ _ _ _ _ => (pg_name (i := 3) nd rfl (Or.inl rfl))) (fun _ _ _ _ _ => (ets_one (PW.pt (ew_or (et_cmp od_is (ed_sn (ed_var (i := 2) rfl (Or.inr (Or.inl rfl)))) (ed_sn ed_non) rfl) (ew_or1 (et_cmp (od_gt hu) (ed_sn (ed_ix hu (ed_sn (ed_var (i := 3) rfl (Or.inl rfl))) (ed_sn ed_int) (fun _ _ => rfl))) (ed_sn (ed_var (i := 2) rfl (Or.inr (Or.inl rfl)))) rfl)))))) (fun _ _ _ _ _ => (ed_ix hu (ed_sn (ed_var (i := 3) rfl (Or.inl rfl))) (ed_sn ed_int) (fun _ _ => rfl))))) ea_nil)))))
theorem ok_paper (T : Txt K w mg) : Ok P w K mg "paper" ["deeds", "stamp", "kind"] 4 [.da, .da, .da] Fn.F_paper := by
  have o_counts := ok_counts (P := P) T
  have o_later_marks := ok_later_marks (P := P) T
  have o_teller := ok_teller (P := P) T
  have nd := sc_paper.nd
  refine T.d_paper.ok sc_paper rfl (by decide) fun base f cdv A outer s H E hr => ?_
  have hu := hr.units
  exact (es_cons (es_set (i := 3) nd rfl (Or.inl rfl) (ed_call o_teller (hr.mono (by omega)) rfl (ea_da (ed_var (i := 0) rfl (Or.inl rfl)) (ea_da (ed_var (i := 1) rfl (Or.inl rfl)) (ea_da (ed_var (i := 2) rfl (Or.inl rfl)) ea_nil)))))
      (es_cons (es_own (i := 4) nd rfl (Or.inl rfl) (ed_lst ea_nil))
      (es_cons (es_for PassesOwn.never rfl (ei_seq (ed_call o_later_marks (hr.mono (by omega)) rfl (ea_da (ed_var (i := 0) rfl (Or.inl rfl)) (ea_da (ed_var (i := 2) rfl (Or.inl rfl)) (ea_da (ed_var (i := 3) rfl (Or.inl rfl)) ea_nil))))) (gs_name (show 5 < N_paper.length by decide)) (pg_name (i := 5) nd rfl (Or.inl rfl))
      (es_one (es_app (i := 4) rfl (Or.inl rfl) (ed_fz (ed_tup (ea_da (ed_var (i := 5) rfl (Or.inl rfl)) (ea_da (ed_fz (ed_if (et_tr (ed_sn (ed_call o_counts (hr.mono (by omega)) rfl (ea_da (ed_var (i := 0) rfl (Or.inl rfl)) (ea_da (ed_var (i := 5) rfl (Or.inl rfl)) ea_nil))))) ed_str ed_str)) ea_nil)))))))
      (es_one (es_ret (ed_fz (ed_tup (ea_da (ed_var (i := 3) rfl (Or.inl rfl)) (ea_da (ed_fz (ed_callTy (cd_tuple) rfl T.z_tuple (by decide +kernel) (ea_sn (ed_snv (i := 4) rfl (Or.inl rfl)) ea_nil))) ea_nil)))))))))
theorem ok_is_row (T : Txt K w mg) : Ok P w K mg "is_row" ["deeds", "stamp", "other", "thing"] 4 [.da, .da, .da, .da] Fn.F_is_row := by
  have o_counts := ok_counts (P := P) T
  have o_covers := ok_covers (P := P) T
  have nd := sc_is_row.nd
  refine T.d_is_row.ok sc_is_row rfl (by decide) fun base f cdv A outer s H E hr => ?_
  have hu := hr.units
  exact (es_cons (es_if (PW.pt (ew_or (et_not (et_tr (ed_sn (ed_isi .tuple (ed_sn (ed_var (i := 3) rfl (Or.inl rfl))) rfl T.z_isinstance rfl T.z_tuple (by decide +kernel))))) (ew_or (et_cmp (od_ne hu) (ed_sn (ed_callB (cd_len) rfl T.z_len (by decide +kernel) (ea_sn (ed_sn (ed_var (i := 3) rfl (Or.inl rfl))) ea_nil))) (ed_sn ed_int) rfl) (ew_or1 (et_cmp (od_ne hu) (ed_sn (ed_ix hu (ed_sn (ed_var (i := 3) rfl (Or.inl rfl))) (ed_sn ed_int) (fun _ _ => rfl))) (ed_sn (ed_var (i := 2) rfl (Or.inl rfl))) rfl)))))
      (es_one (es_ret (ed_fz ed_bl)))
      es_nil)
      (es_cons (es_if (et_cmp (od_eq hu) (ed_sn (ed_ix hu (ed_sn (ed_var (i := 3) rfl (Or.inl rfl))) (ed_sn ed_int) (fun _ _ => rfl))) (ed_sn ed_str) rfl)
      (es_one (es_ret (ed_fz (ed_not (ed_sn (ed_call o_counts (hr.mono (by omega)) rfl (ea_da (ed_var (i := 0) rfl (Or.inl rfl)) (ea_da (ed_var (i := 2) rfl (Or.inl rfl)) ea_nil))))))))
      es_nil)
      (es_one (es_ret (ed_fz (ed_and (ed_sn (ed_cmp (od_eq hu) (ed_sn (ed_ix hu (ed_sn (ed_var (i := 3) rfl (Or.inl rfl))) (ed_sn ed_int) (fun _ _ => rfl))) (ed_sn ed_str) rfl)) (ed_b1 (ed_sn (ed_not (ed_sn (ed_call o_covers (hr.mono (by omega)) rfl (ea_da (ed_var (i := 0) rfl (Or.inl rfl)) (ea_da (ed_var (i := 2) rfl (Or.inl rfl)) (ea_da (ed_var (i := 1) rfl (Or.inl rfl)) ea_nil))))))))))))))
theorem ok_is_paper (T : Txt K w mg) : Ok P w K mg "is_paper" ["deeds", "stamp", "kind", "thing"] 5 [.da, .da, .da, .da] Fn.F_is_paper := by
  have o_counts := ok_counts (P := P) T
  have o_covers := ok_covers (P := P) T
  have o_is_row := ok_is_row (P := P) T
  have o_later_marks := ok_later_marks (P := P) T
  have o_marks_of := ok_marks_of (P := P) T
  have nd := sc_is_paper.nd
  refine T.d_is_paper.ok sc_is_paper rfl (by decide) fun base f cdv A outer s H E hr => ?_
  have hu := hr.units
  exact (es_cons (es_if (PW.pt (ew_or (et_not (et_tr (ed_sn (ed_isi .tuple (ed_sn (ed_var (i := 3) rfl (Or.inl rfl))) rfl T.z_isinstance rfl T.z_tuple (by decide +kernel))))) (ew_or (et_cmp (od_ne hu) (ed_sn (ed_callB (cd_len) rfl T.z_len (by decide +kernel) (ea_sn (ed_sn (ed_var (i := 3) rfl (Or.inl rfl))) ea_nil))) (ed_sn ed_int) rfl) (ew_or1 (et_not (et_tr (ed_sn (ed_isi .tuple (ed_sn (ed_ix hu (ed_sn (ed_var (i := 3) rfl (Or.inl rfl))) (ed_sn ed_int) (fun _ _ => rfl))) rfl T.z_isinstance rfl T.z_tuple (by decide +kernel)))))))))
      (es_one (es_ret (ed_fz ed_bl)))
      es_nil)
      (es_cons (es_tup (js := [4, 5]) (show ∀ j ∈ [4, 5], j < N_is_paper.length by decide) (ed_var (i := 3) rfl (Or.inl rfl)) (pg_tup rfl (pgs_cons (pg_name (i := 4) nd rfl (Or.inr rfl)) (pgs_cons (pg_name (i := 5) nd rfl (Or.inl rfl)) pgs_nil))))
      (es_cons (es_if (et_cmp od_isNot (ed_sn (ed_var (i := 4) rfl (Or.inr (Or.inl rfl)))) (ed_sn ed_non) rfl)
      (es_cons (es_fz fLc_list (show 6 < N_is_paper.length by decide) (es_setLc (i := 6) (own := [("deed", 7)]) (g := (gName 7)) rfl nd rfl rfl (sw_true rfl rfl rfl (by decide +kernel)) (ei_seq (ed_call o_marks_of (hr.mono (by omega)) rfl (ea_da (ed_var (i := 0) rfl (Or.inr (Or.inl rfl))) (ea_da (ed_var (i := 2) rfl (Or.inl rfl)) ea_nil)))) (blkOk_by (N := N_is_paper) (sc := (defScope s_is_paper)) (by decide +kernel)) (show ∀ v ∈ [7], v < N_is_paper.length by decide) (gd_name (show 7 < N_is_paper.length by decide) (by decide)) (fun _ _ _ _ _ => (pg_name (i := 7) nd rfl (Or.inl rfl))) (fun _ _ _ _ _ => (ets_one (et_cmp (od_eq hu) (ed_sn (ed_ix hu (ed_sn (ed_var (i := 7) rfl (Or.inl rfl))) (ed_sn ed_int) (fun _ _ => rfl))) (ed_sn (ed_var (i := 4) rfl (Or.inr (Or.inl rfl)))) rfl))) (fun _ _ _ _ _ => (ed_var (i := 7) rfl (Or.inl rfl)))))
      (es_one (es_if (PW.pt (ew_or (et_not (et_tr (ed_sn (ed_var (i := 6) rfl (Or.inl rfl))))) (ew_or (et_not (et_tr (ed_sn (ed_call o_counts (hr.mono (by omega)) rfl (ea_da (ed_var (i := 0) rfl (Or.inr (Or.inl rfl))) (ea_da (ed_ix hu (ed_sn (ed_ix hu (ed_sn (ed_var (i := 6) rfl (Or.inl rfl))) (ed_sn ed_int) (fun _ _ => rfl))) (ed_sn ed_int) (fun _ _ => rfl)) ea_nil)))))) (ew_or1 (et_not (et_tr (ed_sn (ed_call o_covers (hr.mono (by omega)) rfl (ea_da (ed_var (i := 0) rfl (Or.inr (Or.inl rfl))) (ea_da (ed_ix hu (ed_sn (ed_ix hu (ed_sn (ed_var (i := 6) rfl (Or.inl rfl))) (ed_sn ed_int) (fun _ _ => rfl))) (ed_sn ed_int) (fun _ _ => rfl)) (ea_da (ed_var (i := 1) rfl (Or.inr (Or.inl rfl))) ea_nil)))))))))))
      (es_one (es_ret (ed_fz ed_bl)))
      es_nil)))
      es_nil)
      (es_cons (es_set (i := 8) nd rfl (Or.inl rfl) (ed_call o_later_marks (hr.mono (by omega)) rfl (ea_da (ed_var (i := 0) rfl (Or.inr (Or.inl rfl))) (ea_da (ed_var (i := 2) rfl (Or.inl rfl)) (ea_da (ed_var (i := 4) rfl (Or.inr (Or.inl rfl))) ea_nil)))))
      (es_one (es_ret (ed_fz (ed_and (ed_sn (ed_cmp (od_eq hu) (ed_sn (ed_callB (cd_len) rfl T.z_len (by decide +kernel) (ea_sn (ed_sn (ed_var (i := 5) rfl (Or.inl rfl))) ea_nil))) (ed_sn (ed_callB (cd_len) rfl T.z_len (by decide +kernel) (ea_sn (ed_sn (ed_var (i := 8) rfl (Or.inl rfl))) ea_nil))) rfl)) (ed_b1 (ed_sn (ed_callB (cd_all rfl) rfl T.z_all (by decide +kernel) (ea_sn (ed_sn (ed_lc (own := [("other", 9), ("row", 10)]) (g := (gTup K 2 (gNames [9, 10]))) rfl nd (ei_zipM (ed_var (i := 8) rfl (Or.inl rfl)) (ed_var (i := 5) rfl (Or.inl rfl)) rfl T.z_zip) (blkOk_by (N := N_is_paper) (sc := (defScope s_is_paper)) (by decide +kernel)) (show ∀ v ∈ [9, 10], v < N_is_paper.length by decide) (gd_tup (show ∀ j ∈ [9, 10], j < N_is_paper.length ∧ j ∈ [9, 10] by decide)) (fun _ _ _ _ _ => (pg_tup rfl (pgs_cons (pg_name (i := 9) nd rfl (Or.inl rfl)) (pgs_cons (pg_name (i := 10) nd rfl (Or.inl rfl)) pgs_nil)))) (fun _ _ _ _ _ => ets_nil) (fun _ _ _ _ _ => (ed_call o_is_row (hr.mono (by omega)) rfl (ea_da (ed_var (i := 0) rfl (Or.inr (Or.inl rfl))) (ea_da (ed_var (i := 1) rfl (Or.inr (Or.inl rfl))) (ea_da (ed_var (i := 9) rfl (Or.inl rfl)) (ea_da (ed_var (i := 10) rfl (Or.inl rfl)) ea_nil)))))))) ea_nil))))))))))))
theorem ok__law_cell (T : Txt K w mg) : Ok P w K mg "_law_cell" ["script", "k"] 1 [.sn, .da] Fn.F__law_cell := by
  have nd := sc__law_cell.nd
  refine T.d__law_cell.ok sc__law_cell rfl (by decide) fun base f cdv A outer s H E hr => ?_
  have hu := hr.units
  exact (es_cons (es_if (et_cmp (od_lt hu) (ed_sn (ed_var (i := 1) rfl (Or.inl rfl))) (ed_sn (ed_callB (cd_len) rfl T.z_len (by decide +kernel) (ea_sn (ed_snv (i := 0) rfl (Or.inl rfl)) ea_nil))) rfl)
      (es_one (es_ret (ed_ix hu (ed_snv (i := 0) rfl (Or.inl rfl)) (ed_sn (ed_var (i := 1) rfl (Or.inl rfl))) (fun _ _ => rfl))))
      es_nil)
      (es_one (es_ret (ed_fz ed_int))))
theorem ok__law_mix (T : Txt K w mg) : Ok P w K mg "_law_mix" ["cell", "prime", "many"] 1 [.da, .da, .da] Fn.F__law_mix := by
  have nd := sc__law_mix.nd
  refine T.d__law_mix.ok sc__law_mix rfl (by decide) fun base f cdv A outer s H E hr => ?_
  have hu := hr.units
  exact (es_cons (es_set (i := 3) nd rfl (Or.inl rfl) (ed_fz (ed_op od_mod (ed_sn (ed_op od_mul (ed_sn (ed_var (i := 0) rfl (Or.inl rfl))) (ed_sn ed_int))) (ed_sn (ed_var (i := 1) rfl (Or.inl rfl))))))
      (es_one (es_ret (ed_fz (ed_op od_mod (ed_sn (ed_op od_mod (ed_sn (ed_op od_mul (ed_sn (ed_var (i := 3) rfl (Or.inl rfl))) (ed_sn (ed_op od_add (ed_sn (ed_var (i := 3) rfl (Or.inl rfl))) (ed_sn ed_int))))) (ed_sn (ed_var (i := 1) rfl (Or.inl rfl))))) (ed_sn (ed_var (i := 2) rfl (Or.inl rfl))))))))
theorem ok__law_same (T : Txt K w mg) : ∀ j : Nat, Ok P w K mg "_law_same" ["found", "due"] (j + 0) [.da, .da] (Fn.F__law_same j)
  | 0 => T.d__law_same.ok0
  | j + 1 => by
    have o__law_same := ok__law_same T j
    have nd := sc__law_same.nd
    have z : Ok P w K mg "_law_same" ["found", "due"] (j + 0 + 1) [.da, .da] (fnD N__law_same.length [.da, .da] (Fn.g__law_same (Fn.F__law_same j))) := T.d__law_same.ok sc__law_same rfl (by decide) fun base f cdv A outer s H E hr => by
      have hu := hr.units
      exact (es_cons (es_if (et_tr (ed_sn (ed_isi .tuple (ed_sn (ed_var (i := 1) rfl (Or.inl rfl))) rfl T.z_isinstance rfl T.z_tuple (by decide +kernel))))
      (es_cons (es_if (PW.pt (ew_or (et_not (et_tr (ed_sn (ed_isi .tuple (ed_sn (ed_var (i := 0) rfl (Or.inl rfl))) rfl T.z_isinstance rfl T.z_tuple (by decide +kernel))))) (ew_or1 (et_cmp (od_ne hu) (ed_sn (ed_callB (cd_len) rfl T.z_len (by decide +kernel) (ea_sn (ed_sn (ed_var (i := 0) rfl (Or.inl rfl))) ea_nil))) (ed_sn (ed_callB (cd_len) rfl T.z_len (by decide +kernel) (ea_sn (ed_sn (ed_var (i := 1) rfl (Or.inl rfl))) ea_nil))) rfl))))
      (es_one (es_ret (ed_fz ed_bl)))
      es_nil)
      (es_one (es_ret (ed_fz (ed_callB (cd_all rfl) rfl T.z_all (by decide +kernel) (ea_sn (ed_sn (ed_lc (own := [("one", 2), ("other", 3)]) (g := (gTup K 2 (gNames [2, 3]))) rfl nd (ei_zip (ed_var (i := 0) rfl (Or.inl rfl)) (ed_var (i := 1) rfl (Or.inl rfl)) rfl T.z_zip) (blkOk_by (N := N__law_same) (sc := (defScope s__law_same)) (by decide +kernel)) (show ∀ v ∈ [2, 3], v < N__law_same.length by decide) (gd_tup (show ∀ j ∈ [2, 3], j < N__law_same.length ∧ j ∈ [2, 3] by decide)) (fun _ _ _ _ _ => (pg_tup rfl (pgs_cons (pg_name (i := 2) nd rfl (Or.inl rfl)) (pgs_cons (pg_name (i := 3) nd rfl (Or.inl rfl)) pgs_nil)))) (fun _ _ _ _ _ => ets_nil) (fun _ _ _ _ _ => (ed_call o__law_same (hr.mono (by omega)) rfl (ea_da (ed_var (i := 2) rfl (Or.inl rfl)) (ea_da (ed_var (i := 3) rfl (Or.inl rfl)) ea_nil)))))) ea_nil))))))
      es_nil)
      (es_cons (es_if (et_cmp od_is (ed_sn (ed_var (i := 1) rfl (Or.inl rfl))) (ed_sn ed_non) rfl)
      (es_one (es_ret (ed_fz (ed_cmp od_is (ed_sn (ed_var (i := 0) rfl (Or.inl rfl))) (ed_sn ed_non) rfl))))
      es_nil)
      (es_cons (es_if (PW.pt (ew_or (et_tr (ed_sn (ed_isi .bool (ed_sn (ed_var (i := 1) rfl (Or.inl rfl))) rfl T.z_isinstance rfl T.z_bool (by decide +kernel)))) (ew_or1 (et_tr (ed_sn (ed_isi .bool (ed_sn (ed_var (i := 0) rfl (Or.inl rfl))) rfl T.z_isinstance rfl T.z_bool (by decide +kernel)))))))
      (es_one (es_ret (ed_fz (ed_and (ed_sn (ed_isi .bool (ed_sn (ed_var (i := 1) rfl (Or.inl rfl))) rfl T.z_isinstance rfl T.z_bool (by decide +kernel))) (ed_and (ed_sn (ed_isi .bool (ed_sn (ed_var (i := 0) rfl (Or.inl rfl))) rfl T.z_isinstance rfl T.z_bool (by decide +kernel))) (ed_b1 (ed_sn (ed_cmp (od_eq hu) (ed_sn (ed_var (i := 0) rfl (Or.inl rfl))) (ed_sn (ed_var (i := 1) rfl (Or.inl rfl))) rfl))))))))
      es_nil)
      (es_one (es_ret (ed_fz (ed_and (ed_sn (ed_isi2 .int .str (ed_sn (ed_var (i := 0) rfl (Or.inl rfl))) rfl T.z_isinstance rfl T.z_int (by decide +kernel) rfl T.z_str (by decide +kernel))) (ed_b1 (ed_sn (ed_cmp (od_eq hu) (ed_sn (ed_var (i := 0) rfl (Or.inl rfl))) (ed_sn (ed_var (i := 1) rfl (Or.inl rfl))) rfl))))))))))
    exact z.mono (by omega)
theorem ok__law_letter (T : Txt K w mg) : Ok P w K mg "_law_letter" ["cell"] 2 [.da] Fn.F__law_letter := by
  have o__law_mix := ok__law_mix (P := P) T
  have nd := sc__law_letter.nd
  refine T.d__law_letter.ok sc__law_letter rfl (by decide) fun base f cdv A outer s H E hr => ?_
  have hu := hr.units
  exact (es_cons (es_set (i := 1) nd rfl (Or.inl rfl) (ed_fz ed_str))
      (es_one (es_ret (ed_ix hu (ed_sn (ed_var (i := 1) rfl (Or.inl rfl))) (ed_sn (ed_call o__law_mix (hr.mono (by omega)) rfl (ea_da (ed_var (i := 0) rfl (Or.inl rfl)) (ea_da (ed_fz ed_int) (ea_da (ed_fz (ed_callB (cd_len) rfl T.z_len (by decide +kernel) (ea_sn (ed_sn (ed_var (i := 1) rfl (Or.inl rfl))) ea_nil))) ea_nil))))) (fun _ _ => rfl)))))
theorem ok__law_value (T : Txt K w mg) : Ok P w K mg "_law_value" ["cell", "kind"] 2 [.da, .da] Fn.F__law_value := by
  have o__law_mix := ok__law_mix (P := P) T
  have nd := sc__law_value.nd
  refine T.d__law_value.ok sc__law_value rfl (by decide) fun base f cdv A outer s H E hr => ?_
  have hu := hr.units
  exact (es_cons (es_if (et_cmp (od_eq hu) (ed_sn (ed_var (i := 1) rfl (Or.inl rfl))) (ed_sn ed_str) rfl)
      (es_one (es_ret (ed_fz (ed_cmp (od_eq hu) (ed_sn (ed_call o__law_mix (hr.mono (by omega)) rfl (ea_da (ed_var (i := 0) rfl (Or.inl rfl)) (ea_da (ed_fz ed_int) (ea_da (ed_fz ed_int) ea_nil))))) (ed_sn ed_int) rfl))))
      es_nil)
      (es_one (es_ret (ed_ix hu (ed_sn (ed_tup (ea_da (ed_fz ed_non) (ea_da (ed_fz ed_str) (ea_da (ed_fz ed_str) (ea_da (ed_fz ed_str) (ea_da (ed_fz ed_str) (ea_da (ed_fz ed_str) ea_nil)))))))) (ed_sn (ed_call o__law_mix (hr.mono (by omega)) rfl (ea_da (ed_var (i := 0) rfl (Or.inl rfl)) (ea_da (ed_fz ed_int) (ea_da (ed_fz ed_int) ea_nil))))) (fun _ _ => rfl)))))
theorem ok__law_deeds (T : Txt K w mg) : Ok P w K mg "_law_deeds" ["cell", "many"] 3 [.da, .da] Fn.F__law_deeds := by
  have o__law_letter := ok__law_letter (P := P) T
  have o__law_mix := ok__law_mix (P := P) T
  have o__law_value := ok__law_value (P := P) T
  have nd := sc__law_deeds.nd
  refine T.d__law_deeds.ok sc__law_deeds rfl (by decide) fun base f cdv A outer s H E hr => ?_
  have hu := hr.units
  exact (es_cons (es_par3L (i := 2) (j := 3) (l := 4) rfl nd rfl rfl rfl (by decide) (by decide) (by decide) rfl rfl rfl rfl)
      (es_cons (es_set (i := 5) nd rfl (Or.inl rfl) (ed_fz ed_int))
      (es_cons (es_for PassesOwn.never rfl (ei_range1 (ed_sn (ed_var (i := 1) rfl (Or.inl rfl))) rfl T.z_range) (gs_name (show 6 < N__law_deeds.length by decide)) (pg_name (i := 6) nd rfl (Or.inl rfl))
      (es_cons (es_set (i := 7) nd rfl (Or.inl rfl) (ed_fz (ed_op od_add (ed_sn (ed_var (i := 0) rfl (Or.inl rfl))) (ed_sn (ed_op od_mul (ed_sn ed_int) (ed_sn (ed_var (i := 6) rfl (Or.inl rfl))))))))
      (es_cons (es_set (i := 8) nd rfl (Or.inl rfl) (ed_call o__law_mix (hr.mono (by omega)) rfl (ea_da (ed_var (i := 7) rfl (Or.inl rfl)) (ea_da (ed_fz ed_int) (ea_da (ed_fz ed_int) ea_nil)))))
      (es_cons (es_set (i := 9) nd rfl (Or.inl rfl) (ed_ix hu (ed_sn ed_str) (ed_sn (ed_call o__law_mix (hr.mono (by omega)) rfl (ea_da (ed_var (i := 7) rfl (Or.inl rfl)) (ea_da (ed_fz ed_int) (ea_da (ed_fz ed_int) ea_nil))))) (fun _ _ => rfl)))
      (es_cons (es_if (PW.pt (ew_or (et_cmp (od_eq hu) (ed_snv (i := 2) rfl (Or.inl rfl)) (ed_sn (ed_lst ea_nil)) rfl) (ew_or (et_cmp od_ge (ed_sn (ed_ix hu (ed_sn (ed_ix hu (ed_sn (ed_ix hu (ed_snv (i := 2) rfl (Or.inl rfl)) (ed_sn (ed_neg (ed_sn ed_int))) (fun _ _ => rfl))) (ed_sn ed_int) (fun _ _ => rfl))) (ed_sn ed_int) (fun _ _ => rfl))) (ed_sn (ed_var (i := 9) rfl (Or.inl rfl))) rfl) (ew_or1 (et_cmp (od_gt hu) (ed_sn (ed_call o__law_mix (hr.mono (by omega)) rfl (ea_da (ed_var (i := 7) rfl (Or.inl rfl)) (ea_da (ed_fz ed_int) (ea_da (ed_fz ed_int) ea_nil))))) (ed_sn ed_int) rfl)))))
      (es_one (es_set (i := 5) nd rfl (Or.inl rfl) (ed_fz (ed_op od_add (ed_sn (ed_op od_add (ed_sn (ed_var (i := 5) rfl (Or.inl rfl))) (ed_sn ed_int))) (ed_sn (ed_op od_div (ed_sn (ed_call o__law_mix (hr.mono (by omega)) rfl (ea_da (ed_var (i := 7) rfl (Or.inl rfl)) (ea_da (ed_fz ed_int) (ea_da (ed_fz ed_int) ea_nil))))) (ed_sn ed_int)))))))
      es_nil)
      (es_cons (es_set (i := 10) nd rfl (Or.inl rfl) (ed_fz (ed_tup (ea_da (ed_var (i := 5) rfl (Or.inl rfl)) (ea_da (ed_var (i := 9) rfl (Or.inl rfl)) ea_nil)))))
      (es_cons (es_if (PW.pt (ew_or (et_cmp (od_lt hu) (ed_sn (ed_var (i := 8) rfl (Or.inl rfl))) (ed_sn ed_int) rfl) (ew_or1 (et_cmp (od_eq hu) (ed_snv (i := 3) rfl (Or.inl rfl)) (ed_sn (ed_lst ea_nil)) rfl))))
      (es_cons (es_set (i := 11) nd rfl (Or.inl rfl) (ed_fz (ed_op od_add (ed_sn (ed_lst (ea_da (ed_fz ed_non) ea_nil))) (ed_snv (i := 3) rfl (Or.inl rfl)))))
      (es_cons (es_set (i := 12) nd rfl (Or.inl rfl) (ed_ix hu (ed_sn (ed_var (i := 11) rfl (Or.inl rfl))) (ed_sn (ed_call o__law_mix (hr.mono (by omega)) rfl (ea_da (ed_var (i := 7) rfl (Or.inl rfl)) (ea_da (ed_fz ed_int) (ea_da (ed_fz (ed_callB (cd_len) rfl T.z_len (by decide +kernel) (ea_sn (ed_sn (ed_var (i := 11) rfl (Or.inl rfl))) ea_nil))) ea_nil))))) (fun _ _ => rfl)))
      (es_cons (es_if (et_cmp (od_eq hu) (ed_sn (ed_call o__law_mix (hr.mono (by omega)) rfl (ea_da (ed_var (i := 7) rfl (Or.inl rfl)) (ea_da (ed_fz ed_int) (ea_da (ed_fz ed_int) ea_nil))))) (ed_sn ed_int) rfl)
      (es_one (es_set (i := 12) nd rfl (Or.inl rfl) (ed_ix hu (ed_sn (ed_var (i := 11) rfl (Or.inl rfl))) (ed_sn (ed_neg (ed_sn ed_int))) (fun _ _ => rfl))))
      es_nil)
      (es_cons (es_app (i := 2) rfl (Or.inl rfl) (ed_fz (ed_tup (ea_da (ed_fz ed_str) (ea_da (ed_var (i := 10) rfl (Or.inl rfl)) (ea_da (ed_var (i := 12) rfl (Or.inl rfl)) (ea_da (ed_call o__law_letter (hr.mono (by omega)) rfl (ea_da (ed_fz (ed_op od_add (ed_sn (ed_var (i := 7) rfl (Or.inl rfl))) (ed_sn ed_int))) ea_nil)) ea_nil)))))))
      (es_one (es_app (i := 3) rfl (Or.inl rfl) (ed_var (i := 10) rfl (Or.inl rfl))))))))
      (es_one (es_if (et_cmp (od_eq hu) (ed_sn (ed_var (i := 8) rfl (Or.inl rfl))) (ed_sn ed_int) rfl)
      (es_one (es_app (i := 2) rfl (Or.inl rfl) (ed_fz (ed_tup (ea_da (ed_fz ed_str) (ea_da (ed_var (i := 10) rfl (Or.inl rfl)) (ea_da (ed_ix hu (ed_snv (i := 3) rfl (Or.inl rfl)) (ed_sn (ed_call o__law_mix (hr.mono (by omega)) rfl (ea_da (ed_var (i := 7) rfl (Or.inl rfl)) (ea_da (ed_fz ed_int) (ea_da (ed_fz (ed_callB (cd_len) rfl T.z_len (by decide +kernel) (ea_sn (ed_snv (i := 3) rfl (Or.inl rfl)) ea_nil))) ea_nil))))) (fun _ _ => rfl)) ea_nil)))))))
      (es_one (es_if (et_cmp (od_lt hu) (ed_sn (ed_var (i := 8) rfl (Or.inl rfl))) (ed_sn ed_int) rfl)
      (es_cons (es_set (i := 13) nd rfl (Or.inl rfl) (ed_ix hu (ed_sn (ed_tup (ea_da (ed_fz ed_str) (ea_da (ed_fz ed_str) ea_nil)))) (ed_sn (ed_call o__law_mix (hr.mono (by omega)) rfl (ea_da (ed_var (i := 7) rfl (Or.inl rfl)) (ea_da (ed_fz ed_int) (ea_da (ed_fz ed_int) ea_nil))))) (fun _ _ => rfl)))
      (es_cons (es_set (i := 14) nd rfl (Or.inl rfl) (ed_ix hu (ed_snv (i := 3) rfl (Or.inl rfl)) (ed_sn (ed_call o__law_mix (hr.mono (by omega)) rfl (ea_da (ed_var (i := 7) rfl (Or.inl rfl)) (ea_da (ed_fz ed_int) (ea_da (ed_fz (ed_callB (cd_len) rfl T.z_len (by decide +kernel) (ea_sn (ed_snv (i := 3) rfl (Or.inl rfl)) ea_nil))) ea_nil))))) (fun _ _ => rfl)))
      (es_cons (es_set (i := 15) nd rfl (Or.inl rfl) (ed_ix hu (ed_snv (i := 3) rfl (Or.inl rfl)) (ed_sn (ed_call o__law_mix (hr.mono (by omega)) rfl (ea_da (ed_var (i := 7) rfl (Or.inl rfl)) (ea_da (ed_fz ed_int) (ea_da (ed_fz (ed_callB (cd_len) rfl T.z_len (by decide +kernel) (ea_sn (ed_snv (i := 3) rfl (Or.inl rfl)) ea_nil))) ea_nil))))) (fun _ _ => rfl)))
      (es_cons (es_if (PW.pt (ew_and (et_cmp (od_eq hu) (ed_sn (ed_var (i := 13) rfl (Or.inl rfl))) (ed_sn ed_str) rfl) (ew_and1 (et_cmp (od_eq hu) (ed_sn (ed_call o__law_mix (hr.mono (by omega)) rfl (ea_da (ed_var (i := 7) rfl (Or.inl rfl)) (ea_da (ed_fz ed_int) (ea_da (ed_fz ed_int) ea_nil))))) (ed_sn ed_int) rfl))))
      (es_one (es_set (i := 15) nd rfl (Or.inl rfl) (ed_fz ed_non)))
      es_nil)
      (es_one (es_app (i := 2) rfl (Or.inl rfl) (ed_fz (ed_tup (ea_da (ed_fz ed_str) (ea_da (ed_var (i := 10) rfl (Or.inl rfl)) (ea_da (ed_var (i := 13) rfl (Or.inl rfl)) (ea_da (ed_var (i := 14) rfl (Or.inl rfl)) (ea_da (ed_var (i := 15) rfl (Or.inl rfl)) (ea_da (ed_call o__law_value (hr.mono (by omega)) rfl (ea_da (ed_fz (ed_op od_add (ed_sn (ed_var (i := 7) rfl (Or.inl rfl))) (ed_sn ed_int))) (ea_da (ed_var (i := 13) rfl (Or.inl rfl)) ea_nil))) ea_nil))))))))))))))
      (es_cons (es_set (i := 16) nd rfl (Or.inl rfl) (ed_fz (ed_op od_add (ed_snv (i := 3) rfl (Or.inl rfl)) (ed_snv (i := 4) rfl (Or.inl rfl)))))
      (es_cons (es_set (i := 17) nd rfl (Or.inl rfl) (ed_ix hu (ed_sn (ed_tup (ea_da (ed_fz ed_str) (ea_da (ed_fz ed_str) (ea_da (ed_fz ed_str) ea_nil))))) (ed_sn (ed_call o__law_mix (hr.mono (by omega)) rfl (ea_da (ed_var (i := 7) rfl (Or.inl rfl)) (ea_da (ed_fz ed_int) (ea_da (ed_fz ed_int) ea_nil))))) (fun _ _ => rfl)))
      (es_one (es_app (i := 2) rfl (Or.inl rfl) (ed_fz (ed_tup (ea_da (ed_var (i := 17) rfl (Or.inl rfl)) (ea_da (ed_var (i := 10) rfl (Or.inl rfl)) (ea_da (ed_ix hu (ed_sn (ed_var (i := 16) rfl (Or.inl rfl))) (ed_sn (ed_call o__law_mix (hr.mono (by omega)) rfl (ea_da (ed_var (i := 7) rfl (Or.inl rfl)) (ea_da (ed_fz ed_int) (ea_da (ed_fz (ed_callB (cd_len) rfl T.z_len (by decide +kernel) (ea_sn (ed_sn (ed_var (i := 16) rfl (Or.inl rfl))) ea_nil))) ea_nil))))) (fun _ _ => rfl)) ea_nil))))))))))))))
      (es_one (es_if (et_cmp (od_in hu) (ed_sn (ed_ix hu (ed_sn (ed_ix hu (ed_snv (i := 2) rfl (Or.inl rfl)) (ed_sn (ed_neg (ed_sn ed_int))) (fun _ _ => rfl))) (ed_sn ed_int) (fun _ _ => rfl))) (ed_sn (ed_tup (ea_da (ed_fz ed_str) (ea_da (ed_fz ed_str) ea_nil)))) rfl)
      (es_one (es_app (i := 4) rfl (Or.inl rfl) (ed_var (i := 10) rfl (Or.inl rfl))))
      es_nil)))))))))
      (es_one (es_ret (ed_fz (ed_callTy (cd_tuple) rfl T.z_tuple (by decide +kernel) (ea_sn (ed_snv (i := 2) rfl (Or.inl rfl)) ea_nil))))))))
theorem ok__law_order (T : Txt K w mg) : ∀ j : Nat, Ok P w K mg "_law_order" ["deeds", "ahead"] (j + 0) [.da, .da] (Fn.F__law_order j)
  | 0 => T.d__law_order.ok0
  | j + 1 => by
    have o__law_order := ok__law_order T j
    have nd := sc__law_order.nd
    have z : Ok P w K mg "_law_order" ["deeds", "ahead"] (j + 0 + 1) [.da, .da] (fnD N__law_order.length [.da, .da] (Fn.g__law_order (Fn.F__law_order j))) := T.d__law_order.ok sc__law_order rfl (by decide) fun base f cdv A outer s H E hr => by
      have hu := hr.units
      exact (es_cons (es_set (i := 2) nd rfl (Or.inl rfl) (ed_fz (ed_lst ea_nil)))
      (es_cons (es_for PassesOwn.never rfl (ei_seq (ed_fz (ed_rev (ed_sn (ed_var (i := 0) rfl (Or.inl rfl)))))) (gs_name (show 3 < N__law_order.length by decide)) (pg_name (i := 3) nd rfl (Or.inl rfl))
      (es_one (es_if (PW.pt (ew_and (et_cmp (od_eq hu) (ed_sn (ed_ix hu (ed_sn (ed_var (i := 3) rfl (Or.inl rfl))) (ed_sn ed_int) (fun _ _ => rfl))) (ed_sn ed_str) rfl) (ew_and1 (et_cmp (od_eq hu) (ed_sn (ed_ix hu (ed_sn (ed_var (i := 3) rfl (Or.inl rfl))) (ed_sn ed_int) (fun _ _ => rfl))) (ed_sn (ed_var (i := 1) rfl (Or.inl rfl))) rfl))))
      (es_one (es_set (i := 2) nd rfl (Or.inl rfl) (ed_fz (ed_op od_add (ed_sn (ed_op od_add (ed_sn (ed_var (i := 2) rfl (Or.inl rfl))) (ed_sn (ed_lst (ea_da (ed_ix hu (ed_sn (ed_var (i := 3) rfl (Or.inl rfl))) (ed_sn ed_int) (fun _ _ => rfl)) ea_nil))))) (ed_sn (ed_call o__law_order (hr.mono (by omega)) rfl (ea_da (ed_var (i := 0) rfl (Or.inl rfl)) (ea_da (ed_ix hu (ed_sn (ed_var (i := 3) rfl (Or.inl rfl))) (ed_sn ed_int) (fun _ _ => rfl)) ea_nil))))))))
      es_nil)))
      (es_one (es_ret (ed_var (i := 2) rfl (Or.inl rfl))))))
    exact z.mono (by omega)
theorem ok__law_counts (T : Txt K w mg) : Ok P w K mg "_law_counts" ["deeds", "goal"] 1 [.da, .da] Fn.F__law_counts := by
  have nd := sc__law_counts.nd
  refine T.d__law_counts.ok sc__law_counts rfl (by decide) fun base f cdv A outer s H E hr => ?_
  have hu := hr.units
  exact (es_cons (es_set (i := 2) nd rfl (Or.inl rfl) (ed_fz ed_bl))
      (es_cons (es_for PassesOwn.never rfl (ei_seq (ed_var (i := 0) rfl (Or.inl rfl))) (gs_name (show 3 < N__law_counts.length by decide)) (pg_name (i := 3) nd rfl (Or.inl rfl))
      (es_one (es_if (PW.pt (ew_and (et_cmp (od_in hu) (ed_sn (ed_ix hu (ed_sn (ed_var (i := 3) rfl (Or.inl rfl))) (ed_sn ed_int) (fun _ _ => rfl))) (ed_sn (ed_tup (ea_da (ed_fz ed_str) (ea_da (ed_fz ed_str) ea_nil)))) rfl) (ew_and1 (et_cmp (od_eq hu) (ed_sn (ed_ix hu (ed_sn (ed_var (i := 3) rfl (Or.inl rfl))) (ed_sn ed_int) (fun _ _ => rfl))) (ed_sn (ed_var (i := 1) rfl (Or.inl rfl))) rfl))))
      (es_one (es_set (i := 2) nd rfl (Or.inl rfl) (ed_fz (ed_cmp (od_eq hu) (ed_sn (ed_ix hu (ed_sn (ed_var (i := 3) rfl (Or.inl rfl))) (ed_sn ed_int) (fun _ _ => rfl))) (ed_sn ed_str) rfl))))
      es_nil)))
      (es_one (es_ret (ed_var (i := 2) rfl (Or.inl rfl))))))
theorem ok__law_covers (T : Txt K w mg) : Ok P w K mg "_law_covers" ["row", "mark", "stamp"] 1 [.da, .da, .da] Fn.F__law_covers := by
  have nd := sc__law_covers.nd
  refine T.d__law_covers.ok sc__law_covers rfl (by decide) fun base f cdv A outer s H E hr => ?_
  have hu := hr.units
  exact (es_cons (es_tup (js := [3, 4, 5]) (show ∀ j ∈ [3, 4, 5], j < N__law_covers.length by decide) (ed_fz (ed_sl (ed_sn (ed_var (i := 1) rfl (Or.inl rfl))) (eo_some (ed_sn ed_int)) (eo_some (ed_sn ed_int)))) (pg_tup rfl (pgs_cons (pg_name (i := 3) nd rfl (Or.inl rfl)) (pgs_cons (pg_name (i := 4) nd rfl (Or.inl rfl)) (pgs_cons (pg_name (i := 5) nd rfl (Or.inl rfl)) pgs_nil)))))
      (es_cons (es_set (i := 6) nd rfl (Or.inl rfl) (ed_fz (ed_callB (cd_len) rfl T.z_len (by decide +kernel) (ea_sn (ed_sn (ed_var (i := 0) rfl (Or.inl rfl))) ea_nil))))
      (es_cons (es_if (et_cmp od_isNot (ed_sn (ed_var (i := 5) rfl (Or.inl rfl))) (ed_sn ed_non) rfl)
      (es_one (es_set (i := 6) nd rfl (Or.inl rfl) (ed_fz (ed_op od_add (ed_sn (ed_index hu (ed_sn (ed_var (i := 0) rfl (Or.inl rfl))) (ed_sn (ed_var (i := 5) rfl (Or.inl rfl))))) (ed_sn (ed_callTy (cd_int) rfl T.z_int (by decide +kernel) (ea_sn (ed_sn (ed_cmp (od_eq hu) (ed_sn (ed_var (i := 3) rfl (Or.inl rfl))) (ed_sn ed_str) rfl)) ea_nil)))))))
      es_nil)
      (es_one (es_ret (ed_fz (ed_chain od_le (od_lt hu) (ed_sn (ed_index hu (ed_sn (ed_var (i := 0) rfl (Or.inl rfl))) (ed_sn (ed_var (i := 4) rfl (Or.inl rfl))))) (ed_sn (ed_index hu (ed_sn (ed_var (i := 0) rfl (Or.inl rfl))) (ed_sn (ed_var (i := 2) rfl (Or.inl rfl))))) (ed_sn (ed_var (i := 6) rfl (Or.inl rfl))))))))))
theorem ok__law_teller (T : Txt K w mg) : Ok P w K mg "_law_teller" ["deeds", "row", "stamp", "kind"] 2 [.da, .da, .da, .da] Fn.F__law_teller := by
  have o__law_counts := ok__law_counts (P := P) T
  have o__law_covers := ok__law_covers (P := P) T
  have nd := sc__law_teller.nd
  refine T.d__law_teller.ok sc__law_teller rfl (by decide) fun base f cdv A outer s H E hr => ?_
  have hu := hr.units
  exact (es_cons (es_set (i := 4) nd rfl (Or.inl rfl) (ed_fz ed_non))
      (es_cons (es_for PassesOwn.never rfl (ei_seq (ed_var (i := 0) rfl (Or.inl rfl))) (gs_name (show 5 < N__law_teller.length by decide)) (pg_name (i := 5) nd rfl (Or.inl rfl))
      (es_one (es_if (PW.pt (ew_and (et_cmp (od_eq hu) (ed_sn (ed_ix hu (ed_sn (ed_var (i := 5) rfl (Or.inl rfl))) (ed_sn ed_int) (fun _ _ => rfl))) (ed_sn ed_str) rfl) (ew_and (et_cmp (od_eq hu) (ed_sn (ed_ix hu (ed_sn (ed_var (i := 5) rfl (Or.inl rfl))) (ed_sn ed_int) (fun _ _ => rfl))) (ed_sn (ed_var (i := 3) rfl (Or.inl rfl))) rfl) (ew_and (et_tr (ed_sn (ed_call o__law_covers (hr.mono (by omega)) rfl (ea_da (ed_var (i := 1) rfl (Or.inl rfl)) (ea_da (ed_var (i := 5) rfl (Or.inl rfl)) (ea_da (ed_var (i := 2) rfl (Or.inl rfl)) ea_nil)))))) (ew_and1 (et_tr (ed_sn (ed_call o__law_counts (hr.mono (by omega)) rfl (ea_da (ed_var (i := 0) rfl (Or.inl rfl)) (ea_da (ed_ix hu (ed_sn (ed_var (i := 5) rfl (Or.inl rfl))) (ed_sn ed_int) (fun _ _ => rfl)) ea_nil))))))))))
      (es_one (es_set (i := 4) nd rfl (Or.inl rfl) (ed_var (i := 5) rfl (Or.inl rfl))))
      es_nil)))
      (es_one (es_ret (ed_var (i := 4) rfl (Or.inl rfl))))))
theorem ok__law_odd (T : Txt K w mg) : ∀ j : Nat, Ok P w K mg "_law_odd" ["thing", "cell"] (j + 1) [.da, .da] (F__law_odd j)
  | 0 => T.d__law_odd.ok0
  | j + 1 => by
    have o__law_odd := ok__law_odd T j
    have o__law_mix := ok__law_mix (P := P) T
    have nd := sc__law_odd.nd
    have z : Ok P w K mg "_law_odd" ["thing", "cell"] (j + 1 + 1) [.da, .da] (fnD N__law_odd.length [.da, .da] (g__law_odd (F__law_odd j))) := T.d__law_odd.ok sc__law_odd rfl (by decide) fun base f cdv A outer s H E hr => by
      have hu := hr.units
      exact (es_cons (es_if (PW.pt (ew_and (et_tr (ed_sn (ed_isi .tuple (ed_sn (ed_var (i := 0) rfl (Or.inl rfl))) rfl T.z_isinstance rfl T.z_tuple (by decide +kernel)))) (ew_and (et_cmp (od_ne hu) (ed_sn (ed_var (i := 0) rfl (Or.inl rfl))) (ed_sn (ed_tup ea_nil)) rfl) (ew_and1 (et_cmp (od_gt hu) (ed_sn (ed_call o__law_mix (hr.mono (by omega)) rfl (ea_da (ed_var (i := 1) rfl (Or.inl rfl)) (ea_da (ed_fz ed_int) (ea_da (ed_fz ed_int) ea_nil))))) (ed_sn ed_int) rfl)))))
      (es_cons (es_set (i := 2) nd rfl (Or.inl rfl) (ed_call o__law_mix (hr.mono (by omega)) rfl (ea_da (ed_var (i := 1) rfl (Or.inl rfl)) (ea_da (ed_fz ed_int) (ea_da (ed_fz (ed_callB (cd_len) rfl T.z_len (by decide +kernel) (ea_sn (ed_sn (ed_var (i := 0) rfl (Or.inl rfl))) ea_nil))) ea_nil)))))
      (es_one (es_ret (ed_fz (ed_op od_add (ed_sn (ed_op od_add (ed_sn (ed_sl (ed_sn (ed_var (i := 0) rfl (Or.inl rfl))) eo_no (eo_some (ed_sn (ed_var (i := 2) rfl (Or.inl rfl)))))) (ed_sn (ed_tup (ea_da (ed_call o__law_odd (hr.mono (by omega)) rfl (ea_da (ed_ix hu (ed_sn (ed_var (i := 0) rfl (Or.inl rfl))) (ed_sn (ed_var (i := 2) rfl (Or.inl rfl))) (fun _ _ => rfl)) (ea_da (ed_fz (ed_op od_add (ed_sn (ed_op od_add (ed_sn (ed_var (i := 1) rfl (Or.inl rfl))) (ed_sn (ed_op od_mul (ed_sn ed_int) (ed_sn (ed_var (i := 2) rfl (Or.inl rfl))))))) (ed_sn ed_int))) ea_nil))) ea_nil))))) (ed_sn (ed_sl (ed_sn (ed_var (i := 0) rfl (Or.inl rfl))) (eo_some (ed_sn (ed_op od_add (ed_sn (ed_var (i := 2) rfl (Or.inl rfl))) (ed_sn ed_int)))) eo_no)))))))
      es_nil)
      (es_cons (es_set (i := 3) nd rfl (Or.inl rfl) (ed_fz (ed_lst (ea_da (ed_fz ed_non) (ea_da (ed_fz ed_non) (ea_da (ed_fz ed_bl) (ea_da (ed_fz ed_int) (ea_da (ed_fz ed_int) (ea_da (ed_fz (ed_neg (ed_sn ed_int))) (ea_da (ed_fz ed_int) (ea_da (ed_fz ed_int) (ea_da (ed_fz ed_int) (ea_da (ed_fz ed_int) (ea_da (ed_fz ed_str) (ea_da (ed_fz ed_str) (ea_da (ed_fz ed_str) (ea_da (ed_fz (ed_tup ea_nil)) (ea_da (ed_fz (ed_tup (ea_da (ed_fz ed_str) ea_nil))) (ea_da (ed_fz (ed_lst (ea_da (ed_fz ed_int) ea_nil))) ea_nil)))))))))))))))))))
      (es_cons (es_if (et_tr (ed_sn (ed_isi .tuple (ed_sn (ed_var (i := 0) rfl (Or.inl rfl))) rfl T.z_isinstance rfl T.z_tuple (by decide +kernel))))
      (es_one (es_set (i := 3) nd rfl (Or.inl rfl) (ed_fz (ed_op od_add (ed_sn (ed_var (i := 3) rfl (Or.inl rfl))) (ed_sn (ed_op od_mul (ed_sn (ed_lst (ea_da (ed_fz (ed_callTy (cd_list) rfl T.z_list (by decide +kernel) (ea_sn (ed_sn (ed_var (i := 0) rfl (Or.inl rfl))) ea_nil))) (ea_da (ed_fz (ed_op od_add (ed_sn (ed_var (i := 0) rfl (Or.inl rfl))) (ed_sn (ed_sl (ed_sn (ed_var (i := 0) rfl (Or.inl rfl))) (eo_some (ed_sn (ed_neg (ed_sn ed_int)))) eo_no)))) (ea_da (ed_fz (ed_sl (ed_sn (ed_var (i := 0) rfl (Or.inl rfl))) eo_no (eo_some (ed_sn (ed_neg (ed_sn ed_int)))))) (ea_da (ed_fz (ed_rev (ed_sn (ed_var (i := 0) rfl (Or.inl rfl))))) (ea_da (ed_fz (ed_sl (ed_sn (ed_var (i := 0) rfl (Or.inl rfl))) (eo_some (ed_sn ed_int)) eo_no)) (ea_da (ed_fz (ed_tup (ea_da (ed_var (i := 0) rfl (Or.inl rfl)) ea_nil))) ea_nil)))))))) (ed_sn ed_int)))))))
      (es_one (es_if (et_tr (ed_sn (ed_isi .str (ed_sn (ed_var (i := 0) rfl (Or.inl rfl))) rfl T.z_isinstance rfl T.z_str (by decide +kernel))))
      (es_one (es_set (i := 3) nd rfl (Or.inl rfl) (ed_fz (ed_op od_add (ed_sn (ed_var (i := 3) rfl (Or.inl rfl))) (ed_sn (ed_op od_mul (ed_sn (ed_lst (ea_da (ed_fz (ed_op od_add (ed_sn (ed_var (i := 0) rfl (Or.inl rfl))) (ed_sn ed_str))) (ea_da (ed_fz (ed_sl (ed_sn (ed_var (i := 0) rfl (Or.inl rfl))) eo_no (eo_some (ed_sn (ed_neg (ed_sn ed_int)))))) (ea_da (ed_fz (ed_upper (ed_sn (ed_var (i := 0) rfl (Or.inl rfl))))) (ea_da (ed_fz (ed_op od_add (ed_sn (ed_var (i := 0) rfl (Or.inl rfl))) (ed_sn ed_str))) (ea_da (ed_fz (ed_op od_mul (ed_sn (ed_var (i := 0) rfl (Or.inl rfl))) (ed_sn ed_int))) (ea_da (ed_fz (ed_lst (ea_da (ed_var (i := 0) rfl (Or.inl rfl)) ea_nil))) (ea_da (ed_fz (ed_op od_add (ed_sn (ed_var (i := 0) rfl (Or.inl rfl))) (ed_sn (ed_sl (ed_sn (ed_var (i := 0) rfl (Or.inl rfl))) eo_no (eo_some (ed_sn ed_int)))))) ea_nil))))))))) (ed_sn ed_int)))))))
      (es_one (es_if (et_tr (ed_sn (ed_isi .int (ed_sn (ed_var (i := 0) rfl (Or.inl rfl))) rfl T.z_isinstance rfl T.z_int (by decide +kernel))))
      (es_one (es_set (i := 3) nd rfl (Or.inl rfl) (ed_fz (ed_op od_add (ed_sn (ed_var (i := 3) rfl (Or.inl rfl))) (ed_sn (ed_op od_mul (ed_sn (ed_lst (ea_da (ed_fz (ed_op od_add (ed_sn (ed_var (i := 0) rfl (Or.inl rfl))) (ed_sn ed_int))) (ea_da (ed_fz (ed_op od_sub (ed_sn (ed_var (i := 0) rfl (Or.inl rfl))) (ed_sn ed_int))) (ea_da (ed_fz (ed_op od_sub (ed_sn ed_int) (ed_sn (ed_var (i := 0) rfl (Or.inl rfl))))) (ea_da (ed_fz (ed_tup (ea_da (ed_var (i := 0) rfl (Or.inl rfl)) ea_nil))) (ea_da (ed_fz (ed_op od_add (ed_sn (ed_var (i := 0) rfl (Or.inl rfl))) (ed_sn ed_int))) (ea_da (ed_fz (ed_op od_mul (ed_sn (ed_var (i := 0) rfl (Or.inl rfl))) (ed_sn ed_int))) ea_nil)))))))) (ed_sn ed_int)))))))
      es_nil)))))
      (es_one (es_ret (ed_ix hu (ed_sn (ed_var (i := 3) rfl (Or.inl rfl))) (ed_sn (ed_call o__law_mix (hr.mono (by omega)) rfl (ea_da (ed_var (i := 1) rfl (Or.inl rfl)) (ea_da (ed_fz ed_int) (ea_da (ed_fz (ed_callB (cd_len) rfl T.z_len (by decide +kernel) (ea_sn (ed_sn (ed_var (i := 3) rfl (Or.inl rfl))) ea_nil))) ea_nil))))) (fun _ _ => rfl)))))))
    exact z.mono (by omega)
theorem ok__law_why (T : Txt K w mg) : Ok P w K mg "_law_why" ["deeds", "row", "stamp", "mark"] 2 [.da, .da, .da, .da] Fn.F__law_why := by
  have o__law_counts := ok__law_counts (P := P) T
  have o__law_covers := ok__law_covers (P := P) T
  have nd := sc__law_why.nd
  refine T.d__law_why.ok sc__law_why rfl (by decide) fun base f cdv A outer s H E hr => ?_
  have hu := hr.units
  exact (es_cons (es_set (i := 4) nd rfl (Or.inl rfl) (ed_fz (ed_op od_mul (ed_sn (ed_lst (ea_da (ed_fz ed_str) ea_nil))) (ed_sn (ed_callTy (cd_int) rfl T.z_int (by decide +kernel) (ea_sn (ed_sn (ed_not (ed_sn (ed_call o__law_counts (hr.mono (by omega)) rfl (ea_da (ed_var (i := 0) rfl (Or.inl rfl)) (ea_da (ed_ix hu (ed_sn (ed_var (i := 3) rfl (Or.inl rfl))) (ed_sn ed_int) (fun _ _ => rfl)) ea_nil)))))) ea_nil))))))
      (es_one (es_ret (ed_fz (ed_op od_add (ed_sn (ed_var (i := 4) rfl (Or.inl rfl))) (ed_sn (ed_op od_mul (ed_sn (ed_lst (ea_da (ed_fz ed_str) ea_nil))) (ed_sn (ed_callTy (cd_int) rfl T.z_int (by decide +kernel) (ea_sn (ed_sn (ed_not (ed_sn (ed_call o__law_covers (hr.mono (by omega)) rfl (ea_da (ed_var (i := 1) rfl (Or.inl rfl)) (ea_da (ed_var (i := 3) rfl (Or.inl rfl)) (ea_da (ed_var (i := 2) rfl (Or.inl rfl)) ea_nil))))))) ea_nil))))))))))
theorem ok__law_is_paper (T : Txt K w mg) : Ok P w K mg "_law_is_paper" ["deeds", "row", "stamp", "kind", "thing"] 3 [.da, .da, .da, .da, .da] Fn.F__law_is_paper := by
  have o__law_why := ok__law_why (P := P) T
  have nd := sc__law_is_paper.nd
  refine T.d__law_is_paper.ok sc__law_is_paper rfl (by decide) fun base f cdv A outer s H E hr => ?_
  have hu := hr.units
  exact (es_cons (es_if (PW.pt (ew_or (et_not (et_tr (ed_sn (ed_isi .tuple (ed_sn (ed_var (i := 4) rfl (Or.inr (Or.inl rfl)))) rfl T.z_isinstance rfl T.z_tuple (by decide +kernel))))) (ew_or (et_cmp (od_ne hu) (ed_sn (ed_callB (cd_len) rfl T.z_len (by decide +kernel) (ea_sn (ed_sn (ed_var (i := 4) rfl (Or.inr (Or.inl rfl)))) ea_nil))) (ed_sn ed_int) rfl) (ew_or1 (et_not (et_tr (ed_sn (ed_isi .tuple (ed_sn (ed_ix hu (ed_sn (ed_var (i := 4) rfl (Or.inr (Or.inl rfl)))) (ed_sn ed_int) (fun _ _ => rfl))) rfl T.z_isinstance rfl T.z_tuple (by decide +kernel)))))))))
      (es_one (es_ret (ed_fz ed_bl)))
      es_nil)
      (es_cons (es_fz fLc_list (show 5 < N__law_is_paper.length by decide) (es_setLc (i := 5) (own := [("deed", 6)]) (g := (gName 6)) rfl nd rfl rfl (sw_true rfl rfl rfl (by decide +kernel)) (ei_seq (ed_var (i := 0) rfl (Or.inl rfl))) (blkOk_by (N := N__law_is_paper) (sc := (defScope s__law_is_paper)) (by decide +kernel)) (show ∀ v ∈ [6], v < N__law_is_paper.length by decide) (gd_name (show 6 < N__law_is_paper.length by decide) (by decide)) (fun _ _ _ _ _ => (pg_name (i := 6) nd rfl (Or.inl rfl))) (fun _ _ _ _ _ => (ets_one (PW.pt (ew_and (et_cmp (od_eq hu) (ed_sn (ed_ix hu (ed_sn (ed_var (i := 6) rfl (Or.inl rfl))) (ed_sn ed_int) (fun _ _ => rfl))) (ed_sn ed_str) rfl) (ew_and1 (et_cmp (od_eq hu) (ed_sn (ed_ix hu (ed_sn (ed_var (i := 6) rfl (Or.inl rfl))) (ed_sn ed_int) (fun _ _ => rfl))) (ed_sn (ed_var (i := 3) rfl (Or.inr (Or.inl rfl)))) rfl)))))) (fun _ _ _ _ _ => (ed_var (i := 6) rfl (Or.inl rfl)))))
      (es_cons (es_if (et_cmp od_isNot (ed_sn (ed_ix hu (ed_sn (ed_var (i := 4) rfl (Or.inr (Or.inl rfl)))) (ed_sn ed_int) (fun _ _ => rfl))) (ed_sn ed_non) rfl)
      (es_cons (es_fz fLc_list (show 7 < N__law_is_paper.length by decide) (es_setLc (i := 7) (own := [("mark", 8)]) (g := (gName 8)) rfl nd rfl rfl (sw_true rfl rfl rfl (by decide +kernel)) (ei_seq (ed_var (i := 5) rfl (Or.inl rfl))) (blkOk_by (N := N__law_is_paper) (sc := (defScope s__law_is_paper)) (by decide +kernel)) (show ∀ v ∈ [8], v < N__law_is_paper.length by decide) (gd_name (show 8 < N__law_is_paper.length by decide) (by decide)) (fun _ _ _ _ _ => (pg_name (i := 8) nd rfl (Or.inl rfl))) (fun _ _ _ _ _ => (ets_one (et_cmp (od_eq hu) (ed_sn (ed_ix hu (ed_sn (ed_var (i := 8) rfl (Or.inl rfl))) (ed_sn ed_int) (fun _ _ => rfl))) (ed_sn (ed_ix hu (ed_sn (ed_var (i := 4) rfl (Or.inr (Or.inl rfl)))) (ed_sn ed_int) (fun _ _ => rfl))) rfl))) (fun _ _ _ _ _ => (ed_var (i := 8) rfl (Or.inl rfl)))))
      (es_one (es_if (PW.pt (ew_or (et_cmp (od_eq hu) (ed_sn (ed_var (i := 7) rfl (Or.inl rfl))) (ed_sn (ed_lst ea_nil)) rfl) (ew_or1 (et_cmp (od_ne hu) (ed_sn (ed_call o__law_why (hr.mono (by omega)) rfl (ea_da (ed_var (i := 0) rfl (Or.inl rfl)) (ea_da (ed_var (i := 1) rfl (Or.inl rfl)) (ea_da (ed_var (i := 2) rfl (Or.inl rfl)) (ea_da (ed_ix hu (ed_sn (ed_var (i := 7) rfl (Or.inl rfl))) (ed_sn ed_int) (fun _ _ => rfl)) ea_nil)))))) (ed_sn (ed_lst ea_nil)) rfl))))
      (es_one (es_ret (ed_fz ed_bl)))
      es_nil)))
      es_nil)
      (es_cons (es_fz fLc_list (show 9 < N__law_is_paper.length by decide) (es_setLc (i := 9) (own := [("mark", 8)]) (g := (gName 8)) rfl nd rfl rfl (sw_true rfl rfl rfl (by decide +kernel)) (ei_seq (ed_var (i := 5) rfl (Or.inl rfl))) (blkOk_by (N := N__law_is_paper) (sc := (defScope s__law_is_paper)) (by decide +kernel)) (show ∀ v ∈ [8], v < N__law_is_paper.length by decide) (gd_name (show 8 < N__law_is_paper.length by decide) (by decide)) (fun _ _ _ _ _ => (pg_name (i := 8) nd rfl (Or.inl rfl))) (fun _ _ _ _ _ => (ets_one (PW.pt (ew_or (et_cmp od_is (ed_sn (ed_ix hu (ed_sn (ed_var (i := 4) rfl (Or.inr (Or.inl rfl)))) (ed_sn ed_int) (fun _ _ => rfl))) (ed_sn ed_non) rfl) (ew_or1 (et_cmp (od_gt hu) (ed_sn (ed_ix hu (ed_sn (ed_var (i := 8) rfl (Or.inl rfl))) (ed_sn ed_int) (fun _ _ => rfl))) (ed_sn (ed_ix hu (ed_sn (ed_var (i := 4) rfl (Or.inr (Or.inl rfl)))) (ed_sn ed_int) (fun _ _ => rfl))) rfl)))))) (fun _ _ _ _ _ => (ed_var (i := 8) rfl (Or.inl rfl)))))
      (es_cons (es_if (et_cmp (od_ne hu) (ed_sn (ed_callB (cd_len) rfl T.z_len (by decide +kernel) (ea_sn (ed_sn (ed_var (i := 9) rfl (Or.inl rfl))) ea_nil))) (ed_sn (ed_callB (cd_len) rfl T.z_len (by decide +kernel) (ea_sn (ed_sn (ed_ix hu (ed_sn (ed_var (i := 4) rfl (Or.inr (Or.inl rfl)))) (ed_sn ed_int) (fun _ _ => rfl))) ea_nil))) rfl)
      (es_one (es_ret (ed_fz ed_bl)))
      es_nil)
      (es_cons (es_for PassesOwn.never rfl (ei_zipM (ed_var (i := 9) rfl (Or.inl rfl)) (ed_ix hu (ed_sn (ed_var (i := 4) rfl (Or.inr (Or.inl rfl)))) (ed_sn ed_int) (fun _ _ => rfl)) rfl T.z_zip) (gs_tup (show ∀ j ∈ [8, 10], j < N__law_is_paper.length by decide)) (pg_tup rfl (pgs_cons (pg_name (i := 8) nd rfl (Or.inl rfl)) (pgs_cons (pg_name (i := 10) nd rfl (Or.inl rfl)) pgs_nil)))
      (es_cons (es_if (PW.pt (ew_or (et_not (et_tr (ed_sn (ed_isi .tuple (ed_sn (ed_var (i := 10) rfl (Or.inl rfl))) rfl T.z_isinstance rfl T.z_tuple (by decide +kernel))))) (ew_or (et_cmp (od_ne hu) (ed_sn (ed_callB (cd_len) rfl T.z_len (by decide +kernel) (ea_sn (ed_sn (ed_var (i := 10) rfl (Or.inl rfl))) ea_nil))) (ed_sn ed_int) rfl) (ew_or1 (et_cmp (od_ne hu) (ed_sn (ed_ix hu (ed_sn (ed_var (i := 10) rfl (Or.inl rfl))) (ed_sn ed_int) (fun _ _ => rfl))) (ed_sn (ed_ix hu (ed_sn (ed_var (i := 8) rfl (Or.inl rfl))) (ed_sn ed_int) (fun _ _ => rfl))) rfl)))))
      (es_one (es_ret (ed_fz ed_bl)))
      es_nil)
      (es_one (es_if (et_cmp (od_notIn hu) (ed_sn (ed_ix hu (ed_sn (ed_var (i := 10) rfl (Or.inl rfl))) (ed_sn ed_int) (fun _ _ => rfl))) (ed_sn (ed_call o__law_why (hr.mono (by omega)) rfl (ea_da (ed_var (i := 0) rfl (Or.inl rfl)) (ea_da (ed_var (i := 1) rfl (Or.inl rfl)) (ea_da (ed_var (i := 2) rfl (Or.inl rfl)) (ea_da (ed_var (i := 8) rfl (Or.inl rfl)) ea_nil)))))) rfl)
      (es_one (es_ret (ed_fz ed_bl)))
      es_nil))))
      (es_one (es_ret (ed_fz ed_bl)))))))))
theorem ok_law (T : Txt K w mg) : Ok P w K mg "law" ["script"] 31 [.sn] F_law := by
  have o__law_cell := ok__law_cell (P := P) T
  have o__law_deeds := ok__law_deeds (P := P) T
  have o__law_is_paper := ok__law_is_paper (P := P) T
  have o__law_mix := ok__law_mix (P := P) T
  have o__law_odd := ok__law_odd (P := P) T 8
  have o__law_order := ok__law_order (P := P) T 30
  have o__law_same := ok__law_same (P := P) T 8
  have o__law_teller := ok__law_teller (P := P) T
  have o__law_why := ok__law_why (P := P) T
  have o_is_paper := ok_is_paper (P := P) T
  have o_paper := ok_paper (P := P) T
  have nd := sc_law.nd
  refine T.d_law.ok sc_law rfl (by decide) fun base f cdv A outer s H E hr => ?_
  have hu := hr.units
  exact (es_cons (es_for PassesOwn.never rfl (ei_range1 (ed_sn ed_int) rfl T.z_range) (gs_name (show 1 < N_law.length by decide)) (pg_name (i := 1) nd rfl (Or.inl rfl))
      (es_cons (es_set (i := 2) nd rfl (Or.inl rfl) (ed_fz (ed_op od_add (ed_sn (ed_call o__law_cell (hr.mono (by omega)) rfl (ea_sn (ed_snv (i := 0) rfl (Or.inl rfl)) (ea_da (ed_var (i := 1) rfl (Or.inl rfl)) ea_nil)))) (ed_sn (ed_op od_mul (ed_sn ed_int) (ed_sn (ed_var (i := 1) rfl (Or.inl rfl))))))))
      (es_cons (es_set (i := 3) nd rfl (Or.inr rfl) (ed_call o__law_deeds (hr.mono (by omega)) rfl (ea_da (ed_var (i := 2) rfl (Or.inl rfl)) (ea_da (ed_call o__law_mix (hr.mono (by omega)) rfl (ea_da (ed_var (i := 2) rfl (Or.inl rfl)) (ea_da (ed_fz ed_int) (ea_da (ed_fz ed_int) ea_nil)))) ea_nil))))
      (es_cons (es_set (i := 4) nd rfl (Or.inr rfl) (ed_call o__law_order (hr.mono (by omega)) rfl (ea_da (ed_var (i := 3) rfl (Or.inr (Or.inl rfl))) (ea_da (ed_fz ed_non) ea_nil))))
      (es_one (es_for PassesOwn.never rfl (ei_range1 (ed_sn (ed_callB (cd_min2 rfl) rfl T.z_min (by decide +kernel) (ea_sn (ed_sn ed_int) (ea_sn (ed_sn (ed_callB (cd_len) rfl T.z_len (by decide +kernel) (ea_sn (ed_sn (ed_var (i := 4) rfl (Or.inr (Or.inl rfl)))) ea_nil))) ea_nil)))) rfl T.z_range) (gs_name (show 5 < N_law.length by decide)) (pg_name (i := 5) nd rfl (Or.inl rfl))
      (es_cons (es_set (i := 6) nd rfl (Or.inr rfl) (ed_ix hu (ed_sn (ed_var (i := 4) rfl (Or.inr (Or.inl rfl)))) (ed_sn (ed_call o__law_mix (hr.mono (by omega)) rfl (ea_da (ed_fz (ed_op od_add (ed_sn (ed_op od_add (ed_sn (ed_call o__law_cell (hr.mono (by omega)) rfl (ea_sn (ed_snv (i := 0) rfl (Or.inl rfl)) (ea_da (ed_fz ed_int) ea_nil)))) (ed_sn (ed_op od_mul (ed_sn ed_int) (ed_sn (ed_var (i := 5) rfl (Or.inl rfl))))))) (ed_sn (ed_var (i := 1) rfl (Or.inl rfl))))) (ea_da (ed_fz ed_int) (ea_da (ed_fz (ed_callB (cd_len) rfl T.z_len (by decide +kernel) (ea_sn (ed_sn (ed_var (i := 4) rfl (Or.inr (Or.inl rfl)))) ea_nil))) ea_nil))))) (fun _ _ => rfl)))
      (es_one (es_for PassesOwn.never rfl (ei_seq (ed_fz (ed_tup (ea_da (ed_fz ed_str) (ea_da (ed_fz ed_str) ea_nil))))) (gs_name (show 7 < N_law.length by decide)) (pg_name (i := 7) nd rfl (Or.inr rfl))
      (es_cons (es_set (i := 8) nd rfl (Or.inr rfl) (ed_call o__law_teller (hr.mono (by omega)) rfl (ea_da (ed_var (i := 3) rfl (Or.inr (Or.inl rfl))) (ea_da (ed_var (i := 4) rfl (Or.inr (Or.inl rfl))) (ea_da (ed_var (i := 6) rfl (Or.inr (Or.inl rfl))) (ea_da (ed_var (i := 7) rfl (Or.inr (Or.inl rfl))) ea_nil))))))
      (es_cons (es_set (i := 9) nd rfl (Or.inl rfl) (ed_call o_paper (hr.mono (by omega)) rfl (ea_da (ed_var (i := 3) rfl (Or.inr (Or.inl rfl))) (ea_da (ed_var (i := 6) rfl (Or.inr (Or.inl rfl))) (ea_da (ed_var (i := 7) rfl (Or.inr (Or.inl rfl))) ea_nil)))))
      (es_cons (es_fz fLc_list (show 10 < N_law.length by decide) (es_setLc (i := 10) (own := [("deed", 11)]) (g := (gName 11)) rfl nd rfl rfl (sw_true rfl rfl rfl (by decide +kernel)) (ei_seq (ed_var (i := 3) rfl (Or.inr (Or.inl rfl)))) (blkOk_by (N := N_law) (sc := (defScope s_law)) (by decide +kernel)) (show ∀ v ∈ [11], v < N_law.length by decide) (gd_name (show 11 < N_law.length by decide) (by decide)) (fun _ _ _ _ _ => (pg_name (i := 11) nd rfl (Or.inl rfl))) (fun _ _ _ _ _ => (ets_one (PW.pt (ew_and (et_cmp (od_eq hu) (ed_sn (ed_ix hu (ed_sn (ed_var (i := 11) rfl (Or.inl rfl))) (ed_sn ed_int) (fun _ _ => rfl))) (ed_sn ed_str) rfl) (ew_and1 (et_cmp (od_eq hu) (ed_sn (ed_ix hu (ed_sn (ed_var (i := 11) rfl (Or.inl rfl))) (ed_sn ed_int) (fun _ _ => rfl))) (ed_sn (ed_var (i := 7) rfl (Or.inr (Or.inl rfl)))) rfl)))))) (fun _ _ _ _ _ => (ed_var (i := 11) rfl (Or.inl rfl)))))
      (es_cons (es_fz fLc_list (show 12 < N_law.length by decide) (es_setLc (i := 12) (own := [("deed", 11)]) (g := (gName 11)) rfl nd rfl rfl (sw_true rfl rfl rfl (by decide +kernel)) (ei_seq (ed_var (i := 10) rfl (Or.inl rfl))) (blkOk_by (N := N_law) (sc := (defScope s_law)) (by decide +kernel)) (show ∀ v ∈ [11], v < N_law.length by decide) (gd_name (show 11 < N_law.length by decide) (by decide)) (fun _ _ _ _ _ => (pg_name (i := 11) nd rfl (Or.inl rfl))) (fun _ _ _ _ _ => (ets_one (PW.pt (ew_or (et_cmp od_is (ed_sn (ed_var (i := 8) rfl (Or.inr (Or.inl rfl)))) (ed_sn ed_non) rfl) (ew_or1 (et_cmp (od_gt hu) (ed_sn (ed_ix hu (ed_sn (ed_var (i := 11) rfl (Or.inl rfl))) (ed_sn ed_int) (fun _ _ => rfl))) (ed_sn (ed_ix hu (ed_sn (ed_var (i := 8) rfl (Or.inr (Or.inl rfl)))) (ed_sn ed_int) (fun _ _ => rfl))) rfl)))))) (fun _ _ _ _ _ => (ed_var (i := 11) rfl (Or.inl rfl)))))
      (es_cons (es_set (i := 13) nd rfl (Or.inl rfl) (ed_fz (ed_callTy (cd_tuple) rfl T.z_tuple (by decide +kernel) (ea_sn (ed_sn (ed_lc (own := [("deed", 11)]) (g := (gName 11)) rfl nd (ei_seq (ed_var (i := 12) rfl (Or.inl rfl))) (blkOk_by (N := N_law) (sc := (defScope s_law)) (by decide +kernel)) (show ∀ v ∈ [11], v < N_law.length by decide) (gd_name (show 11 < N_law.length by decide) (by decide)) (fun _ _ _ _ _ => (pg_name (i := 11) nd rfl (Or.inl rfl))) (fun _ _ _ _ _ => ets_nil) (fun _ _ _ _ _ => (ed_fz (ed_tup (ea_da (ed_ix hu (ed_sn (ed_var (i := 11) rfl (Or.inl rfl))) (ed_sn ed_int) (fun _ _ => rfl)) (ea_da (ed_ix hu (ed_sn (ed_call o__law_why (hr.mono (by omega)) rfl (ea_da (ed_var (i := 3) rfl (Or.inr (Or.inl rfl))) (ea_da (ed_var (i := 4) rfl (Or.inr (Or.inl rfl))) (ea_da (ed_var (i := 6) rfl (Or.inr (Or.inl rfl))) (ea_da (ed_var (i := 11) rfl (Or.inl rfl)) ea_nil)))))) (ed_sn ed_int) (fun _ _ => rfl)) ea_nil))))))) ea_nil))))
      (es_cons (es_if (et_not (et_tr (ed_sn (ed_call o__law_same (hr.mono (by omega)) rfl (ea_da (ed_var (i := 9) rfl (Or.inl rfl)) (ea_da (ed_fz (ed_tup (ea_da (ed_if (et_cmp od_is (ed_sn (ed_var (i := 8) rfl (Or.inr (Or.inl rfl)))) (ed_sn ed_non) rfl) (ed_fz ed_non) (ed_ix hu (ed_sn (ed_var (i := 8) rfl (Or.inr (Or.inl rfl)))) (ed_sn ed_int) (fun _ _ => rfl))) (ea_da (ed_var (i := 13) rfl (Or.inl rfl)) ea_nil)))) ea_nil))))))
      (es_one (es_ret (ed_fz ed_bl)))
      es_nil)
      (es_cons (es_own (i := 14) nd rfl (Or.inl rfl) (ed_lst (ea_da (ed_var (i := 9) rfl (Or.inl rfl)) (ea_da (ed_fz ed_non) (ea_da (ed_fz (ed_tup ea_nil)) ea_nil)))))
      (es_cons (es_own (i := 14) nd rfl (Or.inl rfl) (ed_op od_add (ed_snv (i := 14) rfl (Or.inl rfl)) (ed_sn (ed_lst (ea_da (ed_fz (ed_tup (ea_da (ed_fz ed_non) (ea_da (ed_fz (ed_tup ea_nil)) ea_nil)))) (ea_da (ed_call o_paper (hr.mono (by omega)) rfl (ea_da (ed_var (i := 3) rfl (Or.inr (Or.inl rfl))) (ea_da (ed_ix hu (ed_sn (ed_var (i := 4) rfl (Or.inr (Or.inl rfl)))) (ed_sn ed_int) (fun _ _ => rfl)) (ea_da (ed_var (i := 7) rfl (Or.inr (Or.inl rfl))) ea_nil)))) ea_nil))))))
      (es_cons (es_own (i := 14) nd rfl (Or.inl rfl) (ed_op od_add (ed_snv (i := 14) rfl (Or.inl rfl)) (ed_sn (ed_lst (ea_da (ed_call o_paper (hr.mono (by omega)) rfl (ea_da (ed_var (i := 3) rfl (Or.inr (Or.inl rfl))) (ea_da (ed_var (i := 6) rfl (Or.inr (Or.inl rfl))) (ea_da (ed_fz ed_str) ea_nil)))) ea_nil)))))
      (es_cons (es_app (i := 14) rfl (Or.inl rfl) (ed_fz (ed_tup (ea_da (ed_ix hu (ed_sn (ed_var (i := 9) rfl (Or.inl rfl))) (ed_sn ed_int) (fun _ _ => rfl)) (ea_da (ed_fz (ed_callTy (cd_tuple) rfl T.z_tuple (by decide +kernel) (ea_sn (ed_sn (ed_lc (own := [("one", 15), ("word", 16)]) (g := (gTup K 2 (gNames [15, 16]))) rfl nd (ei_seq (ed_ix hu (ed_sn (ed_var (i := 9) rfl (Or.inl rfl))) (ed_sn ed_int) (fun _ _ => rfl))) (blkOk_by (N := N_law) (sc := (defScope s_law)) (by decide +kernel)) (show ∀ v ∈ [15, 16], v < N_law.length by decide) (gd_tup (show ∀ j ∈ [15, 16], j < N_law.length ∧ j ∈ [15, 16] by decide)) (fun _ _ _ _ _ => (pg_tup rfl (pgs_cons (pg_name (i := 15) nd rfl (Or.inl rfl)) (pgs_cons (pg_name (i := 16) nd rfl (Or.inl rfl)) pgs_nil)))) (fun _ _ _ _ _ => ets_nil) (fun _ _ _ _ _ => (ed_fz (ed_tup (ea_da (ed_var (i := 15) rfl (Or.inl rfl)) (ea_da (ed_dsub hu (by decide +kernel) pe_str pe_str (fun _ => .str _) (fun _ => .str _) (ed_sn (ed_var (i := 16) rfl (Or.inl rfl))) (fun _ _ => rfl)) ea_nil))))))) ea_nil))) ea_nil)))))
      (es_cons (es_own (i := 14) nd rfl (Or.inl rfl) (ed_op od_add (ed_snv (i := 14) rfl (Or.inl rfl)) (ed_sn (ed_lst (ea_da (ed_fz (ed_tup (ea_da (ed_ix hu (ed_sn (ed_var (i := 9) rfl (Or.inl rfl))) (ed_sn ed_int) (fun _ _ => rfl)) (ea_da (ed_fz (ed_sl (ed_sn (ed_ix hu (ed_sn (ed_var (i := 9) rfl (Or.inl rfl))) (ed_sn ed_int) (fun _ _ => rfl))) (eo_some (ed_sn ed_int)) eo_no)) ea_nil)))) (ea_da (ed_fz (ed_tup (ea_da (ed_ix hu (ed_sn (ed_var (i := 9) rfl (Or.inl rfl))) (ed_sn ed_int) (fun _ _ => rfl)) (ea_da (ed_fz (ed_rev (ed_sn (ed_ix hu (ed_sn (ed_var (i := 9) rfl (Or.inl rfl))) (ed_sn ed_int) (fun _ _ => rfl))))) ea_nil)))) ea_nil))))))
      (es_cons (es_own (i := 14) nd rfl (Or.inl rfl) (ed_op od_add (ed_snv (i := 14) rfl (Or.inl rfl)) (ed_sn (ed_lst (ea_da (ed_fz (ed_tup (ea_da (ed_ix hu (ed_sn (ed_var (i := 9) rfl (Or.inl rfl))) (ed_sn ed_int) (fun _ _ => rfl)) (ea_da (ed_fz (ed_op od_add (ed_sn (ed_ix hu (ed_sn (ed_var (i := 9) rfl (Or.inl rfl))) (ed_sn ed_int) (fun _ _ => rfl))) (ed_sn (ed_ix hu (ed_sn (ed_var (i := 9) rfl (Or.inl rfl))) (ed_sn ed_int) (fun _ _ => rfl))))) ea_nil)))) ea_nil)))))
      (es_cons (es_own (i := 14) nd rfl (Or.inl rfl) (ed_op od_add (ed_snv (i := 14) rfl (Or.inl rfl)) (ed_sn (ed_lc (own := [("deed", 11)]) (g := (gName 11)) rfl nd (ei_seq (ed_var (i := 12) rfl (Or.inl rfl))) (blkOk_by (N := N_law) (sc := (defScope s_law)) (by decide +kernel)) (show ∀ v ∈ [11], v < N_law.length by decide) (gd_name (show 11 < N_law.length by decide) (by decide)) (fun _ _ _ _ _ => (pg_name (i := 11) nd rfl (Or.inl rfl))) (fun _ _ _ _ _ => ets_nil) (fun _ _ _ _ _ => (ed_fz (ed_tup (ea_da (ed_ix hu (ed_sn (ed_var (i := 11) rfl (Or.inl rfl))) (ed_sn ed_int) (fun _ _ => rfl)) (ea_da (ed_fz (ed_tup ea_nil)) ea_nil)))))))))
      (es_cons (es_for PassesOwn.never rfl (ei_range1 (ed_sn ed_int) rfl T.z_range) (gs_name (show 17 < N_law.length by decide)) (pg_name (i := 17) nd rfl (Or.inl rfl))
      (es_one (es_app (i := 14) rfl (Or.inl rfl) (ed_call o__law_odd (hr.mono (by omega)) rfl (ea_da (ed_var (i := 9) rfl (Or.inl rfl)) (ea_da (ed_fz (ed_op od_add (ed_sn (ed_op od_add (ed_sn (ed_call o__law_cell (hr.mono (by omega)) rfl (ea_sn (ed_snv (i := 0) rfl (Or.inl rfl)) (ea_da (ed_fz ed_int) ea_nil)))) (ed_sn (ed_op od_mul (ed_sn ed_int) (ed_sn (ed_var (i := 17) rfl (Or.inl rfl))))))) (ed_sn (ed_op od_mul (ed_sn ed_int) (ed_sn (ed_var (i := 1) rfl (Or.inl rfl))))))) ea_nil))))))
      (es_frz (i := 14) (show 14 < N_law.length by decide) (es_one (es_for PassesOwn.never rfl (ei_seq (ed_var (i := 14) rfl (Or.inl rfl))) (gs_name (show 18 < N_law.length by decide)) (pg_name (i := 18) nd rfl (Or.inl rfl))
      (es_cons (es_par (i := 19) (j := 13) rfl nd rfl rfl (by decide) rfl rfl (ed_call o_is_paper (hr.mono (by omega)) rfl (ea_da (ed_var (i := 3) rfl (Or.inr (Or.inl rfl))) (ea_da (ed_var (i := 6) rfl (Or.inr (Or.inl rfl))) (ea_da (ed_var (i := 7) rfl (Or.inr (Or.inl rfl))) (ea_da (ed_var (i := 18) rfl (Or.inl rfl)) ea_nil))))) (ed_call o__law_is_paper (hr.mono (by omega)) rfl (ea_da (ed_var (i := 3) rfl (Or.inr (Or.inl rfl))) (ea_da (ed_var (i := 4) rfl (Or.inr (Or.inl rfl))) (ea_da (ed_var (i := 6) rfl (Or.inr (Or.inl rfl))) (ea_da (ed_var (i := 7) rfl (Or.inr (Or.inl rfl))) (ea_da (ed_var (i := 18) rfl (Or.inl rfl)) ea_nil)))))) rfl)
      (es_one (es_if (PW.pt (ew_or (PW.pt (ew_and (et_cmp od_isNot (ed_sn (ed_var (i := 19) rfl (Or.inl rfl))) (ed_sn ed_bl) rfl) (ew_and1 (et_tr (ed_sn (ed_var (i := 13) rfl (Or.inl rfl))))))) (ew_or1 (PW.pt (ew_and (et_cmp od_isNot (ed_sn (ed_var (i := 19) rfl (Or.inl rfl))) (ed_sn ed_bl) rfl) (ew_and1 (et_not (et_tr (ed_sn (ed_var (i := 13) rfl (Or.inl rfl)))))))))))
      (es_one (es_ret (ed_fz ed_bl)))
      es_nil)))))))))))))))))))))))))))))
      (es_one (es_ret (ed_fz (ed_cmp (od_eq hu) (ed_sn (ed_call o_paper (hr.mono (by omega)) rfl (ea_da (ed_fz (ed_tup (ea_da (ed_fz (ed_tup (ea_da (ed_fz ed_str) (ea_da (ed_fz (ed_tup (ea_da (ed_fz ed_int) (ea_da (ed_fz ed_str) ea_nil)))) (ea_da (ed_fz ed_non) (ea_da (ed_fz ed_str) ea_nil)))))) ea_nil))) (ea_da (ed_fz (ed_tup (ea_da (ed_fz ed_int) (ea_da (ed_fz ed_str) ea_nil)))) (ea_da (ed_fz ed_str) ea_nil))))) (ed_sn (ed_tup (ea_da (ed_fz ed_non) (ea_da (ed_fz (ed_tup ea_nil)) ea_nil)))) rfl)))))
end
end K04
/-! K04p: law k04 in plain terms -/
namespace K04
open Hm PySem PySem.SeqAt L2
/-! ### odd things -/
def baseL : List D := [.none, .none, .bool false, .int 0, .int 1, .int (-1), .int 2, .int 7, .int 10, .int 1000, .str "", .str "a", .str "A", .tuple [], .tuple [.str "a"], .list [.int 1]]
theorem baseL_oo {B n : Nat} : ∀ x ∈ baseL, ooD false (2 * B + 1) (n + 1) x = true := by
  have h : baseL.all (ooD false (2 * B + 1) (n + 1)) = true := by
    simp [baseL]
  exact List.all_eq_true.mp h
def condO : Ft := (bAnd (bTr (fIsi .tuple (fVar 0))) (bAnd (bOf (fOp neD (fVar 0) (fTup fNil))) (bOf (fOp gtD (fCallF Fn.F__law_mix (fCons (fVar 1) (fCons (fC (.int 9781)) (fCons (fC (.int 5)) fNil)))) (fC (.int 0))))))
theorem odd_last {B n : Nat} (L : List D) (c : Int) (h0 : 0 < L.length) (hL : ∀ x ∈ L, ooD false (2 * B + 1) (n + 1) x = true) (x0 x2 : Sl) : ∃ r, So.fin ((gRet (fOp ixD (fVar 3) (fCallF Fn.F__law_mix (fCons (fVar 1) (fCons (fC (.int 9749)) (fCons (fCall (g1 lenD) (fCons (fVar 3) fNil)) fNil)))))) [x0, .dat (.int c), x2, .dat (.list L)]) = .ok r ∧ ooD false (2 * B + 1) (n + 1) r = true := by
  obtain ⟨r, hr, hx⟩ := pickL c 9749 (by decide) (by decide) L h0
  refine ⟨r, ?_, hL r hr⟩
  simp only [gRet_e, fOp_e, fVar_s, fVar_0, Rs.ok_bind, fCallF_e, fCons_e, fC_e, fCall_e, fNil_e, g1_e, lenD_l, Rs.of_some, F_mix c 9749 L.length (by decide) (by decide) (by omega), noX_ok_e, hx, So.of_ok, fin_rt]
theorem base_e (δ : Dl) : (fLst (fCons (fC .none) (fCons (fC .none) (fCons (fC (.bool false)) (fCons (fC (.int 0)) (fCons (fC (.int 1)) (fCons (fNeg (fC (.int 1))) (fCons (fC (.int 2)) (fCons (fC (.int 7)) (fCons (fC (.int 10)) (fCons (fC (.int 1000)) (fCons (fC (.str "")) (fCons (fC (.str "a")) (fCons (fC (.str "A")) (fCons (fTup fNil) (fCons (fTup (fCons (fC (.str "a")) fNil)) (fCons (fLst (fCons (fC (.int 1)) fNil)) fNil))))))))))))))))) δ = .ok (.list baseL) := by
  have f0 : fits 0 = true := rfl
  have f1 : fits 1 = true := rfl
  have f16 : fits 16 = true := rfl
  simp only [fLst_e, fCons_e, fC_e, fNeg_e, fTup_e, fNil_e, Rs.ok_bind, intOf_int, Rs.of_some, List.length_cons, List.length_nil, Nat.zero_add, Nat.reduceAdd, f0, f1, f16, need_true]
  rfl
theorem cat_e (L : List D) (h : L.length ≤ 100) : addD (.list baseL) (.list L) = some (.list (baseL ++ L)) := by
  show (if fits (baseL.length + L.length) then some (PyData.list (baseL ++ L)) else none) = _
  rw [fits_of (show baseL.length + L.length ≤ 16777216 by show 16 + L.length ≤ _; omega)]; rfl
theorem odd_fall {B : Nat} (hB : B ≤ 100000) (F : List D → Rs D) (n : Nat) (d : D) (c : Int) (hg : gdD false B n d = true) (hc : condO [.dat d, .dat (.int c), .no, .no] = .ok false) :
    ∃ r, So.fin (g__law_odd F [.dat d, .dat (.int c), .no, .no]) = .ok r ∧ ooD false (2 * B + 1) (n + 1) r = true := by
  have key : ∀ L : List D, (∀ x ∈ L, ooD false (2 * B + 1) (n + 1) x = true) → ∃ r, So.fin ((gRet (fOp ixD (fVar 3) (fCallF Fn.F__law_mix (fCons (fVar 1) (fCons (fC (.int 9749)) (fCons (fCall (g1 lenD) (fCons (fVar 3) fNil)) fNil)))))) [.dat d, .dat (.int c), .no, .dat (.list (baseL ++ L))]) = .ok r ∧ ooD false (2 * B + 1) (n + 1) r = true := fun L hL =>
    odd_last (baseL ++ L) c (by rw [List.length_append]; show 0 < 16 + L.length; omega) (fun x hx => (List.mem_append.mp hx).elim (baseL_oo x) (hL x)) _ _
  have key0 := key [] (by simp)
  rw [List.append_nil] at key0
  have iT : ∀ x2 x3, (bTr (fIsi .tuple (fVar 0))) [.dat d, .dat (.int c), x2, x3] = Rs.of (isiB .tuple d) := fun x2 x3 => by
    cases hq : isiB .tuple d <;> simp [hq]
  have iS : ∀ x2 x3, (bTr (fIsi .str (fVar 0))) [.dat d, .dat (.int c), x2, x3] = Rs.of (isiB .str d) := fun x2 x3 => by
    cases hq : isiB .str d <;> simp [hq]
  have iI : ∀ x2 x3, (bTr (fIsi .int (fVar 0))) [.dat d, .dat (.int c), x2, x3] = Rs.of (isiB .int d) := fun x2 x3 => by
    cases hq : isiB .int d <;> simp [hq]
  unfold condO at hc
  unfold g__law_odd
  rw [gSeq_e, gIf_f _ _ _ _ hc, gNx_e, then_nx, gSeq_e, gSet_e, base_e, So.of_ok, then_nx]
  simp only [List.set_cons_succ, List.set_cons_zero]
  rw [gSeq_e]
  cases d with
  | none =>
    rw [gIf_f _ _ _ _ (iT _ _), gIf_f _ _ _ _ (iS _ _), gIf_f _ _ _ _ (iI _ _), gNx_e, then_nx]
    exact key0
  | bool b =>
    obtain ⟨a1, a2, a3, a4, a5, he⟩ := oddB_e b [.dat (.int c), .no, .dat (.list baseL)]
    unfold fOddI at he
    rw [gIf_f _ _ _ _ (iT _ _), gIf_f _ _ _ _ (iS _ _), gIf_t _ _ _ _ (iI _ _), gSet_e, fOp_e, he]
    have hl : addD (.list baseL) (.list ([.int a1, .int a2, .int a3, .tuple [.bool b], .int a4, .int a5] ++ [.int a1, .int a2, .int a3, .tuple [.bool b], .int a4, .int a5])) = _ := cat_e _ (by simp)
    simp only [fVar_s, fVar_0, Rs.ok_bind, hl, Rs.of_some, So.of_ok, then_nx, List.set_cons_succ, List.set_cons_zero]
    refine key _ (List.all_eq_true.mp ?_)
    rw [gd_bool] at hg
    simp [hg]
  | int i =>
    obtain ⟨a1, a2, a3, a4, a5, he⟩ := oddI_e i [.dat (.int c), .no, .dat (.list baseL)]
    unfold fOddI at he
    rw [gIf_f _ _ _ _ (iT _ _), gIf_f _ _ _ _ (iS _ _), gIf_t _ _ _ _ (iI _ _), gSet_e, fOp_e, he]
    have hl : addD (.list baseL) (.list ([.int a1, .int a2, .int a3, .tuple [.int i], .int a4, .int a5] ++ [.int a1, .int a2, .int a3, .tuple [.int i], .int a4, .int a5])) = _ := cat_e _ (by simp)
    simp only [fVar_s, fVar_0, Rs.ok_bind, hl, Rs.of_some, So.of_ok, then_nx, List.set_cons_succ, List.set_cons_zero]
    refine key _ (List.all_eq_true.mp ?_)
    simp
  | str x =>
    rw [gd_str, decide_eq_true_eq] at hg
    have he := oddS_e x (by omega) [.dat (.int c), .no, .dat (.list baseL)]
    unfold fOddS at he
    rw [gIf_f _ _ _ _ (iT _ _), gIf_t _ _ _ _ (iS _ _), gSet_e, fOp_e, he]
    have hl : addD (.list baseL) (.list (oddS x ++ oddS x)) = _ := cat_e _ (by simp [oddS])
    simp only [fVar_s, fVar_0, Rs.ok_bind, hl, Rs.of_some, So.of_ok, then_nx, List.set_cons_succ, List.set_cons_zero]
    refine key _ (List.all_eq_true.mp ?_)
    simp [oddS]
  | tuple xs =>
    match n, hg with
    | n + 1, hg =>
      have hxl : xs.length ≤ B := by
        simp only [gdd_tup, Bool.and_eq_true, decide_eq_true_eq] at hg
        exact hg.1
      have he := oddT_e xs (by omega) [.dat (.int c), .no, .dat (.list baseL)]
      unfold fOddT at he
      rw [gIf_t _ _ _ _ (iT _ _), gSet_e, fOp_e, he]
      have hl : addD (.list baseL) (.list (oddT xs ++ oddT xs)) = _ := cat_e _ (by simp [oddT])
      simp only [fVar_s, fVar_0, Rs.ok_bind, hl, Rs.of_some, So.of_ok, then_nx, List.set_cons_succ, List.set_cons_zero]
      refine key _ fun x hx => ?_
      exact oddT_oo hg x ((List.mem_append.mp hx).elim id id)
  | list xs => simp at hg
  | dict xs => simp at hg
theorem neD_emp (xs : List D) (h : xs.all (okD 31) = true) : neD (.tuple xs) (.tuple []) = some (.bool (!xs.isEmpty)) := by
  unfold neD
  have e1 : okD 32 (.tuple xs) = true := h
  have e2 : okD 32 (.tuple []) = true := rfl
  rw [e1, e2]
  cases xs <;> rfl
theorem odd_ok {B : Nat} (hB : B ≤ 100000) : ∀ (n : Nat), n ≤ 20 → ∀ (d : D) (c : Int), gdD false B n d = true → ∃ r, F__law_odd (n + 1) [d, .int c] = .ok r ∧ ooD false (2 * B + 1) (n + 1) r = true := by
  intro n
  induction n with
  | zero =>
    intro _ d c hg
    show ∃ r, fnD (2 + 2) [.da, .da] (g__law_odd (F__law_odd 0)) [d, .int c] = .ok r ∧ _
    rw [fnD_2 2]
    refine odd_fall hB _ 0 d c hg ?_
    unfold condO
    cases d with
    | tuple xs => cases hg
    | list xs => simp at hg
    | dict xs => simp at hg
    | _ => simp [isiB]
  | succ n ih =>
    intro hn d c hg
    show ∃ r, fnD (2 + 2) [.da, .da] (g__law_odd (F__law_odd (n + 1))) [d, .int c] = .ok r ∧ _
    rw [fnD_2 2]
    have hmx := F_mix c 9781 5 (by decide) (by decide) (by decide)
    have hfall := odd_fall hB (F__law_odd (n + 1)) (n + 1) d c hg
    cases d with
    | tuple xs =>
      have hg' := hg
      simp only [gdd_tup, Bool.and_eq_true, decide_eq_true_eq, List.all_eq_true] at hg'
      have hok : xs.all (okD 31) = true := by
        rw [List.all_eq_true]
        intro x hx
        exact okD_mono n 31 (by omega) x (oo_ok (tr := false) (B := B) n x (gd_oo (Nat.le_refl _) n n (Nat.le_refl _) x (hg'.2 x hx)))
      have hne := neD_emp xs hok
      have f0 : fits 0 = true := rfl
      have f1 : fits 1 = true := rfl
      have hcond : condO [.dat (.tuple xs), .dat (.int c), .no, .no] = .ok (!xs.isEmpty && decide (0 < mix c 9781 5)) := by
        have hgt : gtD (.int (mix c 9781 5)) (.int 0) = some (.bool (decide (0 < mix c 9781 5))) := rfl
        unfold condO
        cases xs with
        | nil => simp [isiB, hne, f0]
        | cons x r => simp [isiB, hne, f0, hmx, hgt]
      cases hb : (!xs.isEmpty && decide (0 < mix c 9781 5)) with
      | false => exact hfall (by rw [hcond, hb])
      | true =>
        rw [hb] at hcond
        have hx0 : 0 < xs.length := by
          cases xs with
          | nil => cases hb
          | cons x r => simp
        obtain ⟨x, hx, hix⟩ := pickT c 9769 (by decide) (by decide) xs hx0
        obtain ⟨r, hr, hro⟩ := ih (by omega) x (c + 31 * mix c 9769 xs.length + 7) (hg'.2 x hx)
        have hm2 := F_mix c 9769 xs.length (by decide) (by decide) (by omega)
        obtain ⟨hr1, hr2⟩ := mix_range c 9769 xs.length (by omega)
        generalize mix c 9769 xs.length = at1 at *
        have m31 : mulD (.int 31) (.int at1) = some (.int (31 * at1)) := mulD_sm' _ _ (by decide)
        have ai : ∀ i j : Int, addD (.int i) (.int j) = some (.int (i + j)) := fun _ _ => rfl
        have hc1 := cutL_len xs none (some at1)
        have hc2 := cutL_len xs (some (at1 + 1)) none
        have a1 : addD (.tuple (cutL xs none (some at1))) (.tuple [r]) = some (.tuple (cutL xs none (some at1) ++ [r])) := by
          show (if fits ((cutL xs none (some at1)).length + 1) then some (PyData.tuple (cutL xs none (some at1) ++ [r])) else none) = _
          rw [fits_of (by omega)]; rfl
        have a2 : addD (.tuple (cutL xs none (some at1) ++ [r])) (.tuple (cutL xs (some (at1 + 1)) none)) = some (.tuple (cutL xs none (some at1) ++ [r] ++ cutL xs (some (at1 + 1)) none)) := by
          show (if fits ((cutL xs none (some at1) ++ [r]).length + (cutL xs (some (at1 + 1)) none).length) then some (PyData.tuple (cutL xs none (some at1) ++ [r] ++ cutL xs (some (at1 + 1)) none)) else none) = _
          rw [fits_of (by rw [List.length_append, List.length_singleton]; omega)]; rfl
        refine ⟨.tuple (cutL xs none (some at1) ++ [r] ++ cutL xs (some (at1 + 1)) none), ?_, ?_⟩
        · unfold condO at hcond
          unfold g__law_odd
          simp only [List.replicate, gSeq_e, gIf_t _ _ _ _ hcond, gSet_e, fCallF_e, fCons_e, fVar_s, fVar_0, fC_e, fCall_e, fNil_e, Rs.ok_bind, g1_e, lenD_t, Rs.of_some, hm2, noX_ok_e, So.of_ok, then_nx, List.set_cons_succ, List.set_cons_zero, gRet_e, fOp_e, fSl_e, foSome_e, foNo_e, intOf_int, slD, fTup_e, hix, ai, m31, hr, List.length_cons, List.length_nil, Nat.zero_add, f1, need_true, a1, a2, then_rt, fin_rt]
        · simp only [oo_tup, Bool.and_eq_true, decide_eq_true_eq, List.all_eq_true]
          refine ⟨?_, fun y hy => ?_⟩
          · have hsum : (cutL xs none (some at1)).length + (cutL xs (some (at1 + 1)) none).length ≤ 2 * xs.length := by omega
            simp only [List.length_append, List.length_singleton]
            omega
          · rcases List.mem_append.mp hy with hy | hy
            · rcases List.mem_append.mp hy with hy | hy
              · exact gd_oo (by omega) n (n + 1) (by omega) y (hg'.2 y (cutL_sub hy))
              · rw [List.mem_singleton.mp hy]; exact hro
            · exact gd_oo (by omega) n (n + 1) (by omega) y (hg'.2 y (cutL_sub hy))
    | list xs => simp at hg
    | dict xs => simp at hg
    | _ => exact hfall (by simp [condO, isiB])
/-! ### the law -/
def Good (d : D) : Prop := ooD false 100000 32 d = true
theorem Good.ok {d : D} (h : Good d) : okD 32 d = true := oo_ok _ _ h
theorem Good.nt {d : D} (h : Good d) : noTrue d = true := oo_noTrue _ _ h
theorem Good.few {d : D} (h : Good d) (m : D) (rows : List D) (e : d = .tuple [m, .tuple rows]) : rows.length ≤ 100000 := by
  subst e
  unfold Good at h
  simp only [oo_tup, List.all_cons, List.all_nil, Bool.and_true, Bool.and_eq_true, decide_eq_true_eq] at h
  exact h.2.2.1
theorem Good.pair {m : D} {rows : List D} (hm : ooD false 100000 31 m = true) (hr : ∀ x ∈ rows, ooD false 100000 30 x = true) (hl : rows.length ≤ 100000) : Good (.tuple [m, .tuple rows]) := by
  unfold Good
  simp only [oo_tup, List.all_cons, List.all_nil, Bool.and_true, Bool.and_eq_true, decide_eq_true_eq, List.all_eq_true]
  exact ⟨by simp, hm, hl, hr⟩
theorem add_l (a b : List D) (h : a.length + b.length ≤ 100000) : addD (.list a) (.list b) = some (.list (a ++ b)) := by
  show (if fits (a.length + b.length) then some (PyData.list (a ++ b)) else none) = _
  rw [fits_of (by omega)]; rfl
theorem add_t (a b : List D) (h : a.length + b.length ≤ 100000) : addD (.tuple a) (.tuple b) = some (.tuple (a ++ b)) := by
  show (if fits (a.length + b.length) then some (PyData.tuple (a ++ b)) else none) = _
  rw [fits_of (by omega)]; rfl
section
variable {ds : List Deed} {kd : Str} {s : Stm} {sc k c j : D}
def I7 (ds : List Deed) (kd : Str) (s : Stm) (sc k c j : D) (δ : Dl) : Prop := ∃ x8 x9 x10 x11 x12 x13 x14 x15 x16 x17 x18 x19, δ = [.par sc, .dat k, .dat c, .dat (.tuple (ds.map dD)), .dat (.list ((orderOf ds).map dS)), .dat j, .dat (dS s), .dat (.str kd), x8, x9, x10, x11, x12, x13, x14, x15, x16, x17, x18, x19]
theorem b1_ok (h : Fine ds) (h0 : ∀ d ∈ ds, 0 < d.st.1) (hl : ds.length ≤ 1500) (hs : s ∈ letS ds) {t : D} (ht : Good t) (δ : Dl) (hi : I7 ds kd s sc k c j δ) : ∃ δ2, b1_law (δ.set 18 (.dat t)) = .nx δ2 ∧ I7 ds kd s sc k c j δ2 := by
  obtain ⟨x8, x9, x10, x11, x12, x13, x14, x15, x16, x17, x18, x19, rfl⟩ := hi
  simp only [List.set_cons_succ, List.set_cons_zero]
  have e1 := F_ispaper h h0 hl hs kd ht.ok ht.nt ht.few
  have e2 := F_lawispaper h h0 hl hs kd ht.ok ht.nt ht.few
  generalize isPaperB ds kd s t = b at e1 e2
  have q : (bOr (bAnd (bOf (fOp isNotD (fVar 19) (fC (.bool true)))) (bTr (fVar 13))) (bAnd (bOf (fOp isNotD (fVar 19) (fC (.bool false)))) (bNot (bTr (fVar 13))))) [.par sc, .dat k, .dat c, .dat (.tuple (ds.map dD)), .dat (.list ((orderOf ds).map dS)), .dat j, .dat (dS s), .dat (.str kd), x8, x9, x10, x11, x12, .dat (.bool b), x14, x15, x16, x17, .dat t, .dat (.bool b)] = .ok false := by
    cases b
    · simp [show isNotD (.bool false) (.bool true) = some (.bool true) from rfl, show isNotD (.bool false) (.bool false) = some (.bool false) from rfl]
    · simp [show isNotD (.bool true) (.bool true) = some (.bool false) from rfl, show isNotD (.bool true) (.bool false) = some (.bool true) from rfl]
  have e : b1_law [.par sc, .dat k, .dat c, .dat (.tuple (ds.map dD)), .dat (.list ((orderOf ds).map dS)), .dat j, .dat (dS s), .dat (.str kd), x8, x9, x10, x11, x12, x13, x14, x15, x16, x17, .dat t, x19] = .nx [.par sc, .dat k, .dat c, .dat (.tuple (ds.map dD)), .dat (.list ((orderOf ds).map dS)), .dat j, .dat (dS s), .dat (.str kd), x8, x9, x10, x11, x12, .dat (.bool b), x14, x15, x16, x17, .dat t, .dat (.bool b)] := by
    simp only [b1_law, gSeq_e, gPar_e, fCallF_e, fCons_e, fVar_s, fVar_0, fNil_e, Rs.ok_bind, e1, e2, noX_ok_e, So.of_ok, List.set_cons_succ, List.set_cons_zero, then_nx, gIf_f _ _ _ _ q, gNx_e]
  exact ⟨_, e, ⟨_, _, _, _, _, _, _, _, _, _, _, _, rfl⟩⟩
theorem b2_loop {ns : List Int} {kk : Nat} {told : D} (ht : gdD false 1000 7 told = true) {c7 : Int} (hc7 : Fn.F__law_cell [.list (ns.map PyData.int), .int 7] = .ok (.int c7)) (x8 x10 x11 x12 x13 x15 x16 x18 x19 : Sl) : ∀ (xs : List Nat) (acc : List D) (x17 : Sl), acc.length + xs.length ≤ 1000 → (∀ x ∈ acc, Good x) →
    ∃ acc' y17, forS (ftN 17) b2_law (xs.map fun (n : Nat) => PyData.int n) [.par (.list (ns.map PyData.int)), .dat (.int kk), .dat c, .dat (.tuple (ds.map dD)), .dat (.list ((orderOf ds).map dS)), .dat j, .dat (dS s), .dat (.str kd), x8, .dat told, x10, x11, x12, x13, .own (.list acc), x15, x16, x17, x18, x19] = .nx [.par (.list (ns.map PyData.int)), .dat (.int kk), .dat c, .dat (.tuple (ds.map dD)), .dat (.list ((orderOf ds).map dS)), .dat j, .dat (dS s), .dat (.str kd), x8, .dat told, x10, x11, x12, x13, (.own (.list acc')), x15, x16, y17, x18, x19] ∧ ∀ x ∈ acc', Good x
  | [], acc, x17, _, hg => ⟨acc, x17, by simp, hg⟩
  | n :: r, acc, x17, hl, hg => by
    simp only [List.length_cons] at hl
    obtain ⟨q, hq, hqo⟩ := odd_ok (B := 1000) (by decide) 7 (by decide) told (c7 + 17 * n + 5 * kk) ht
    have hgq : Good q := oo_mono (by decide) 8 32 (by decide) q hqo
    obtain ⟨acc', y17, h1, h2⟩ := b2_loop ht hc7 x8 x10 x11 x12 x13 x15 x16 x18 x19 r (acc ++ [q]) (.dat (.int n)) (by simp; omega) (fun x hx => (List.mem_append.mp hx).elim (hg x) fun hx => by rw [List.mem_singleton.mp hx]; exact hgq)
    refine ⟨acc', y17, ?_, h2⟩
    rw [List.map_cons, forS_cons]
    simp only [ftN_e, List.set_cons_succ, List.set_cons_zero]
    have m17 : mulD (.int 17) (.int n) = some (.int (17 * n)) := mulD_sm' _ _ (by decide)
    have m5 : mulD (.int 5) (.int kk) = some (.int (5 * kk)) := mulD_sm' _ _ (by decide)
    have fa : fits (acc.length + 1) = true := fits_of (by omega)
    have e : b2_law [.par (.list (ns.map PyData.int)), .dat (.int kk), .dat c, .dat (.tuple (ds.map dD)), .dat (.list ((orderOf ds).map dS)), .dat j, .dat (dS s), .dat (.str kd), x8, .dat told, x10, x11, x12, x13, .own (.list acc), x15, x16, .dat (.int n), x18, x19] = .nx [.par (.list (ns.map PyData.int)), .dat (.int kk), .dat c, .dat (.tuple (ds.map dD)), .dat (.list ((orderOf ds).map dS)), .dat j, .dat (dS s), .dat (.str kd), x8, .dat told, x10, x11, x12, x13, .own (.list (acc ++ [q])), x15, x16, .dat (.int n), x18, x19] := by
      simp only [b2_law, gApp, List.getElem?_cons_succ, List.getElem?_cons_zero, fCallF_e, fCons_e, fVar_s, fVar_0, fOp_e, fSn_0p, fC_e, fNil_e, Rs.ok_bind, hc7, noX_ok_e, m17, m5, Rs.of_some, addD_i, hq, So.of_ok, fa, if_true, List.set_cons_succ, List.set_cons_zero]
    rw [e, turnS_nx, h1]
theorem gd_O {B n : Nat} {o : Option Stm} (hB : 2 ≤ B) (h : ∀ t, o = some t → t.2.length ≤ B) : gdD false B (n + 1) (dO o) = true := by
  cases o with
  | none => rfl
  | some t =>
    show (decide (2 ≤ B) && (gdD false B n (.int t.1) && (gdD false B n (.str t.2) && true))) = true
    simp [hB, h t rfl]
theorem gd_paper (hN : ∀ d ∈ ds, d.st.2.length ≤ 1000) (hl : ds.length ≤ 1000) (n : Nat) (q : Str) (t : Stm) : gdD false 1000 (n + 4) (paperD ds q t) = true := by
  unfold paperD
  simp only [gdd_tup, List.all_cons, List.all_nil, Bool.and_true, Bool.and_eq_true, decide_eq_true_eq, List.all_eq_true, List.length_map]
  refine ⟨by simp, gd_O (by decide) fun u hu => ?_, Nat.le_trans (laterL_len _ _ _) hl, fun x hx => ?_⟩
  · cases ht : tellOf ds q t with
    | none => rw [ht] at hu; cases hu
    | some d =>
      rw [ht] at hu
      cases hu
      exact hN d (tell_in ht).1
  · obtain ⟨d, hd, rfl⟩ := List.mem_map.mp hx
    have h1 := hN d (laterL_sub hd).1
    unfold rowD whyW
    have h2 : ("apart" : Str).length ≤ 1000 := by decide +kernel
    have h3 : ("off" : Str).length ≤ 1000 := by decide +kernel
    simp only [gdd_tup, dS, List.all_cons, List.all_nil, Bool.and_true, Bool.and_eq_true, decide_eq_true_eq, gd_int, gd_str, List.length_cons, List.length_nil]
    refine ⟨by omega, ⟨by omega, trivial, h1⟩, ?_⟩
    split
    · exact h2
    · exact h3
theorem okT_paper (hl : ds.length ≤ 1000) (n : Nat) (q : Str) (t : Stm) : okT (n + 6) (paperD ds q t) = true := by
  have hr : okT (n + 5) (.tuple ((laterL ds q ((tellOf ds q t).map Deed.st)).map (rowD ds))) = true := by
    have hll := laterL_len ds q ((tellOf ds q t).map Deed.st)
    simp only [okT, List.length_map, Bool.and_eq_true, List.all_eq_true]
    refine ⟨fun x hx => ?_, by simp; omega⟩
    obtain ⟨d, _, rfl⟩ := List.mem_map.mp hx
    simp [rowD, okT, okT_S]
  unfold paperD
  have ho := okT_O (n + 3) ((tellOf ds q t).map Deed.st)
  have e : ∀ a b : D, okT (n + 6) (.tuple [a, b]) = ((okT (n + 5) a && (okT (n + 5) b && true)) && decide (2 ≤ 100000)) := fun _ _ => rfl
  rw [e, ho, hr]
  rfl
theorem Good.paper (hN : ∀ d ∈ ds, d.st.2.length ≤ 1000) (hl : ds.length ≤ 1000) (q : Str) (t : Stm) : Good (paperD ds q t) := gd_oo (by decide) 4 32 (by decide) _ (gd_paper hN hl 0 q t)
theorem why_head (h : Rise ds) {d : Deed} (hd : d ∈ laterL ds kd ((tellOf ds kd s).map Deed.st)) : ixD (.list ((whyL ds s d).map PyData.str)) (.int 0) = some (.str (whyW ds d)) := by
  unfold whyL whyW
  cases hc : countsB ds d.st with
  | false => simp
  | true =>
    rw [later_apart h hd hc]
    simp
def swD (ds : List Deed) (d : Deed) : D := .tuple [dS d.st, .str (if countsB ds d.st = true then "off" else "apart")]
def onD (d : Deed) : D := .tuple [dS d.st, .tuple []]

theorem c5_e {ns : List Int} {kk : Nat} (hl : ds.length ≤ 1000) (x8 x9 x10 x11 x12 x13 x14 x15 x16 x17 x18 x19 : Sl) : c5_law [.par (.list (ns.map PyData.int)), .dat (.int kk), .dat c, .dat (.tuple (ds.map dD)), .dat (.list ((orderOf ds).map dS)), .dat j, .dat (dS s), .dat (.str kd), x8, x9, x10, x11, x12, x13, x14, x15, x16, x17, x18, x19] = .ok (.list ((ds.filter (isMk kd)).map dD)) := by
  unfold c5_law
  refine fLc_map dD (isMk kd) dD ds (by omega) (by simp [itemsOf]) fun d hd => ⟨_, rfl, ?_, fun _ => by simp [wipeS]⟩
  cases d with
  | mark t k' f e v =>
    have i2 : ixD (dD (.mark t k' f e v)) (.int 2) = some (.str k') := rfl
    simp [wipeS, eqD_str, Deed.word, i2, isMk]
  | _ => simp [wipeS, eqD_str, Deed.word, isMk]
theorem c4_e {ns : List Int} {kk : Nat} (hl : ds.length ≤ 1000) (x9 x11 x12 x13 x14 x15 x16 x17 x18 x19 : Sl) : c4_law [.par (.list (ns.map PyData.int)), .dat (.int kk), .dat c, .dat (.tuple (ds.map dD)), .dat (.list ((orderOf ds).map dS)), .dat j, .dat (dS s), .dat (.str kd), .dat (dOD (tellOf ds kd s)), x9, .dat (.list ((ds.filter (isMk kd)).map dD)), x11, x12, x13, x14, x15, x16, x17, x18, x19] = .ok (.list ((laterL ds kd ((tellOf ds kd s).map Deed.st)).map dD)) := by
  unfold c4_law
  have hfl := filter_len (isMk kd) ds
  refine fLc_map dD (fun d => gtO ((tellOf ds kd s).map Deed.st) d.st) dD (ds.filter (isMk kd)) (by omega) (by simp [itemsOf]) fun d hd => ⟨_, rfl, ?_, fun _ => by simp [wipeS]⟩
  cases (tellOf ds kd s) with
  | none => simp [wipeS, dOD, isD, isNon, gtO]
  | some t => simp [wipeS, dOD, isD_D, gtD_S, gtO]
theorem c3_e {ns : List Int} {kk : Nat} (h : Fine ds) (hl : ds.length ≤ 1000) (hs : s ∈ letS ds) (x8 x9 x10 x11 x13 x14 x15 x16 x17 x18 x19 : Sl) : c3_law [.par (.list (ns.map PyData.int)), .dat (.int kk), .dat c, .dat (.tuple (ds.map dD)), .dat (.list ((orderOf ds).map dS)), .dat j, .dat (dS s), .dat (.str kd), x8, x9, x10, x11, .dat (.list ((laterL ds kd ((tellOf ds kd s).map Deed.st)).map dD)), x13, x14, x15, x16, x17, x18, x19] = .ok (.list ((laterL ds kd ((tellOf ds kd s).map Deed.st)).map (rowD ds))) := by
  unfold c3_law
  have hll := laterL_len ds kd ((tellOf ds kd s).map Deed.st)
  refine fLc_all dD (rowD ds) (laterL ds kd ((tellOf ds kd s).map Deed.st)) (by omega) (by simp [itemsOf]) fun d hd => ⟨_, rfl, ?_⟩
  have hw := F_lawwhy h (by omega) hs (laterL_sub hd).1 (isMk_mark (laterL_sub hd).2.1)
  have hh := why_head h.rise hd
  have f2 : fits 2 = true := rfl
  simp only [wipeS, List.foldl_cons, List.foldl_nil, List.set_cons_succ, List.set_cons_zero, fTup_e, fCons_e, fOp_e, fVar_s, fVar_0, fC_e, Rs.ok_bind, ixD_dD1, Rs.of_some, fCallF_e, fNil_e, hw, noX_ok_e, hh, List.length_cons, List.length_nil, Nat.zero_add, Nat.reduceAdd, f2, need_true, rowD]
theorem c1_e {ns : List Int} {kk : Nat} (hl : ds.length ≤ 1000) (x8 x9 x10 x11 x13 x14 x15 x16 x17 x18 x19 : Sl) : c1_law [.par (.list (ns.map PyData.int)), .dat (.int kk), .dat c, .dat (.tuple (ds.map dD)), .dat (.list ((orderOf ds).map dS)), .dat j, .dat (dS s), .dat (.str kd), x8, x9, x10, x11, .dat (.list ((laterL ds kd ((tellOf ds kd s).map Deed.st)).map dD)), x13, x14, x15, x16, x17, x18, x19] = .ok (.list ((laterL ds kd ((tellOf ds kd s).map Deed.st)).map onD)) := by
  unfold c1_law
  have hll := laterL_len ds kd ((tellOf ds kd s).map Deed.st)
  refine fLc_all dD onD (laterL ds kd ((tellOf ds kd s).map Deed.st)) (by omega) (by simp [itemsOf]) fun d hd => ⟨_, rfl, ?_⟩
  have f2 : fits 2 = true := rfl
  have f0 : fits 0 = true := rfl
  simp only [wipeS, List.foldl_cons, List.foldl_nil, List.set_cons_succ, List.set_cons_zero, fTup_e, fCons_e, fOp_e, fVar_s, fVar_0, fC_e, Rs.ok_bind, ixD_dD1, Rs.of_some, fNil_e, List.length_cons, List.length_nil, Nat.zero_add, Nat.reduceAdd, f0, f2, need_true, onD]
theorem told0 : ixD (paperD ds kd s) (.int 0) = some (dO ((tellOf ds kd s).map Deed.st)) := by unfold paperD; simp
theorem told1 : ixD (paperD ds kd s) (.int 1) = some (.tuple ((laterL ds kd ((tellOf ds kd s).map Deed.st)).map (rowD ds))) := by unfold paperD; simp
theorem c2_e {ns : List Int} {kk : Nat} (hl : ds.length ≤ 1000) (x8 x10 x11 x12 x13 x14 x15 x16 x17 x18 x19 : Sl) : c2_law [.par (.list (ns.map PyData.int)), .dat (.int kk), .dat c, .dat (.tuple (ds.map dD)), .dat (.list ((orderOf ds).map dS)), .dat j, .dat (dS s), .dat (.str kd), x8, .dat (paperD ds kd s), x10, x11, x12, x13, x14, x15, x16, x17, x18, x19] = .ok (.list ((laterL ds kd ((tellOf ds kd s).map Deed.st)).map (swD ds))) := by
  unfold c2_law
  have hll := laterL_len ds kd ((tellOf ds kd s).map Deed.st)
  refine fLc_all (rowD ds) (swD ds) (laterL ds kd ((tellOf ds kd s).map Deed.st)) (by omega) (by simp [itemsOf, told1]) fun d hd => ⟨[.par (.list (ns.map PyData.int)), .dat (.int kk), .dat c, .dat (.tuple (ds.map dD)), .dat (.list ((orderOf ds).map dS)), .dat j, .dat (dS s), .dat (.str kd), x8, .dat (paperD ds kd s), x10, x11, x12, x13, x14, .dat (dS d.st), .dat (.str (whyW ds d)), x17, x18, x19], by simp [wipeS, rowD, ftT, setAll], ?_⟩
  have f2 : fits 2 = true := rfl
  have ha : kixD "off" "apart" (.str "apart") (.str "off") (.str (whyW ds d)) = some (.str (if countsB ds d.st = true then "off" else "apart")) := by
    unfold whyW
    have hoa : ¬ (("off" : Str) = "apart") := by decide +kernel
    cases countsB ds d.st <;> simp [kixD, hoa]
  simp only [fTup_e, fCons_e, fVar_s, fVar_0, fUn, Rs.ok_bind, ha, Rs.of_some, fNil_e, List.length_cons, List.length_nil, Nat.zero_add, Nat.reduceAdd, f2, need_true, swD]
def someL (ds : List Deed) (kd : Str) (s r0 : Stm) : List D := [paperD ds kd s, .none, .tuple []] ++ [.tuple [.none, .tuple []], paperD ds kd r0] ++ [paperD ds "bold" s] ++ [.tuple [dO ((tellOf ds kd s).map Deed.st), .tuple ((laterL ds kd ((tellOf ds kd s).map Deed.st)).map (swD ds))]] ++ [.tuple [dO ((tellOf ds kd s).map Deed.st), .tuple (cutL ((laterL ds kd ((tellOf ds kd s).map Deed.st)).map (rowD ds)) (some 1) none)], .tuple [dO ((tellOf ds kd s).map Deed.st), .tuple ((laterL ds kd ((tellOf ds kd s).map Deed.st)).map (rowD ds)).reverse]] ++ [.tuple [dO ((tellOf ds kd s).map Deed.st), .tuple (((laterL ds kd ((tellOf ds kd s).map Deed.st)).map (rowD ds)) ++ ((laterL ds kd ((tellOf ds kd s).map Deed.st)).map (rowD ds)))]] ++ (laterL ds kd ((tellOf ds kd s).map Deed.st)).map onD
theorem rowD_oo (hN : ∀ d ∈ ds, d.st.2.length ≤ 1000) : ∀ x ∈ ((laterL ds kd ((tellOf ds kd s).map Deed.st)).map (rowD ds)), ooD false 100000 30 x = true := fun x hx => by
  obtain ⟨d, hd, rfl⟩ := List.mem_map.mp hx
  simp [rowD, dS]
theorem mo_oo : ooD false 100000 31 (dO ((tellOf ds kd s).map Deed.st)) = true := by
  cases ((tellOf ds kd s).map Deed.st) with
  | none => rfl
  | some t => simp [dO, dS]
theorem someL_good (hN : ∀ d ∈ ds, d.st.2.length ≤ 1000) (hl : ds.length ≤ 1000) (r0 : Stm) : ∀ x ∈ someL ds kd s r0, Good x := by
  have hll := laterL_len ds kd ((tellOf ds kd s).map Deed.st)
  have hm := mo_oo (ds := ds) (kd := kd) (s := s)
  have hr := rowD_oo (ds := ds) (kd := kd) (s := s) hN
  have hp := fun q t => Good.paper hN hl q t
  intro x hx
  simp only [someL, List.mem_append, List.mem_cons, List.not_mem_nil, or_false] at hx
  rcases hx with (((((((rfl | rfl | rfl) | (rfl | rfl)) | rfl) | rfl) | (rfl | rfl)) | rfl) | hx)
  · exact hp _ _
  · exact oo_none _
  · unfold Good; simp
  · unfold Good; simp
  · exact hp _ _
  · exact hp _ _
  · refine Good.pair hm (fun y hy => ?_) (by simp; omega)
    obtain ⟨d, hd, rfl⟩ := List.mem_map.mp hy
    simp [swD, dS]
  · exact Good.pair hm (fun y hy => hr y (cutL_sub hy)) (by have := cutL_len ((laterL ds kd ((tellOf ds kd s).map Deed.st)).map (rowD ds)) (some 1) none; simp at this; omega)
  · exact Good.pair hm (fun y hy => hr y (List.mem_reverse.mp hy)) (by simp; omega)
  · exact Good.pair hm (fun y hy => (List.mem_append.mp hy).elim (hr y) (hr y)) (by simp; omega)
  · obtain ⟨d, hd, rfl⟩ := List.mem_map.mp hx
    unfold Good onD
    simp [dS]
theorem someL_len (hl : ds.length ≤ 30) (r0 : Stm) : (someL ds kd s r0).length ≤ 100 := by
  have hll := laterL_len ds kd ((tellOf ds kd s).map Deed.st)
  simp only [someL, List.length_append, List.length_cons, List.length_nil, List.length_map]
  omega
theorem rangeD_6 : rangeD 0 6 = ([0, 1, 2, 3, 4, 5] : List Nat).map fun (n : Nat) => PyData.int n := rfl
theorem b3_ok {ns : List Int} {kk : Nat} (h : Fine ds) (h0 : ∀ d ∈ ds, 0 < d.st.1) (hN : ∀ d ∈ ds, d.st.2.length ≤ 1000) (hl : ds.length ≤ 30) (hs : s ∈ letS ds) (x8 x9 x10 x11 x12 x13 x14 x15 x16 x17 x18 x19 : Sl) : ∃ δ2, b3_law [.par (.list (ns.map PyData.int)), .dat (.int kk), .dat c, .dat (.tuple (ds.map dD)), .dat (.list ((orderOf ds).map dS)), .dat j, .dat (dS s), .dat (.str kd), x8, x9, x10, x11, x12, x13, x14, x15, x16, x17, x18, x19] = .nx δ2 ∧ I7 ds kd s (.list (ns.map PyData.int)) (.int kk) c j δ2 := by
  obtain ⟨c7, hc7⟩ := F_cell ns 7
  have hc7 : Fn.F__law_cell [.list (ns.map PyData.int), .int 7] = .ok (.int c7) := hc7
  have hll := laterL_len ds kd ((tellOf ds kd s).map Deed.st)
  have e8 := F_lawteller h (by omega) hs kd
  have e9 := F_paper h (by omega) hs kd
  have e9b := F_paper h (by omega) hs "bold"
  obtain ⟨r0, rr, hrow⟩ : ∃ r0 rr, orderOf ds = r0 :: rr := by
    cases hq : orderOf ds with
    | nil => have := h.all s hs; rw [hq] at this; simp at this
    | cons a b => exact ⟨a, b, rfl⟩
  have hr0 : r0 ∈ letS ds := h.sub r0 (by rw [hrow]; simp)
  have e90 := F_paper h (by omega) hr0 kd
  have hi0 : ixD (.list ((orderOf ds).map dS)) (.int 0) = some (dS r0) := by rw [hrow]; simp
  have f0 : fits 0 = true := rfl
  have f1 : fits 1 = true := rfl
  have f2 : fits 2 = true := rfl
  have f3 : fits 3 = true := rfl
  have hsm := F_same 8 _ (okT_paper (ds := ds) (by omega) 2 kd s)
  have hsx : (fTup (fCons (fIf (bOf (fOp isD (fVar 8) (fC .none))) (fC .none) (fOp ixD (fVar 8) (fC (.int 1)))) (fCons (fVar 13) fNil))) [.par (.list (ns.map PyData.int)), .dat (.int kk), .dat c, .dat (.tuple (ds.map dD)), .dat (.list ((orderOf ds).map dS)), .dat j, .dat (dS s), .dat (.str kd), .dat (dOD (tellOf ds kd s)), .dat (paperD ds kd s), .dat (.list ((ds.filter (isMk kd)).map dD)), x11, .dat (.list ((laterL ds kd ((tellOf ds kd s).map Deed.st)).map dD)), .dat (.tuple ((laterL ds kd ((tellOf ds kd s).map Deed.st)).map (rowD ds))), x14, x15, x16, x17, x18, x19] = .ok (paperD ds kd s) := by
    unfold paperD
    cases (tellOf ds kd s) with
    | none => simp [dOD, isD, isNon, dO, f2]
    | some t => simp [dOD, isD_D, dO, f2]
  have q : (bNot (bTr (fCallF (Fn.F__law_same 8) (fCons (fVar 9) (fCons (fTup (fCons (fIf (bOf (fOp isD (fVar 8) (fC .none))) (fC .none) (fOp ixD (fVar 8) (fC (.int 1)))) (fCons (fVar 13) fNil))) fNil))))) [.par (.list (ns.map PyData.int)), .dat (.int kk), .dat c, .dat (.tuple (ds.map dD)), .dat (.list ((orderOf ds).map dS)), .dat j, .dat (dS s), .dat (.str kd), .dat (dOD (tellOf ds kd s)), .dat (paperD ds kd s), .dat (.list ((ds.filter (isMk kd)).map dD)), x11, .dat (.list ((laterL ds kd ((tellOf ds kd s).map Deed.st)).map dD)), .dat (.tuple ((laterL ds kd ((tellOf ds kd s).map Deed.st)).map (rowD ds))), x14, x15, x16, x17, x18, x19] = .ok false := by
    simp only [bNot_e, bTr_e, fCallF_e, fCons_e, hsx, fVar_s, fVar_0, fNil_e, Rs.ok_bind, hsm, noX_ok_e, truD_bool, Rs.of_some, Bool.not_true]
  have a0 := fun (a b : List D) (z : a.length + b.length ≤ 100000) => add_l a b z
  obtain ⟨acc', y17, hb2, hg2⟩ := b2_loop (ds := ds) (kd := kd) (s := s) (c := c) (j := j) (kk := kk) (gd_paper hN (by omega) 3 kd s) hc7 (.dat (dOD (tellOf ds kd s))) (.dat (.list ((ds.filter (isMk kd)).map dD))) x11 (.dat (.list ((laterL ds kd ((tellOf ds kd s).map Deed.st)).map dD))) (.dat (.tuple ((laterL ds kd ((tellOf ds kd s).map Deed.st)).map (rowD ds)))) x15 x16 x18 x19 [0, 1, 2, 3, 4, 5] (someL ds kd s r0) x17 (by have := someL_len (kd := kd) (s := s) hl r0; simp; omega) (someL_good hN (by omega) r0)
  rw [← rangeD_6] at hb2
  have e6 : ∀ δ, rng1 (fC (.int 6)) δ = .ok (rangeD 0 6) := fun δ => rng1_ok 6 (by decide) rfl
  obtain ⟨δ', hb1, hI⟩ := forS_inv (I := I7 ds kd s (.list (ns.map PyData.int)) (.int kk) c j) (ft := ftN 18) (gb := b1_law) acc' (fun x hx δ hδ => by
    obtain ⟨δ2, h1, h2⟩ := b1_ok h h0 (by omega) hs (hg2 x hx) δ hδ
    exact ⟨_, δ2, rfl, h1, h2⟩) [.par (.list (ns.map PyData.int)), .dat (.int kk), .dat c, .dat (.tuple (ds.map dD)), .dat (.list ((orderOf ds).map dS)), .dat j, .dat (dS s), .dat (.str kd), .dat (dOD (tellOf ds kd s)), .dat (paperD ds kd s), .dat (.list ((ds.filter (isMk kd)).map dD)), x11, .dat (.list ((laterL ds kd ((tellOf ds kd s).map Deed.st)).map dD)), .dat (.tuple ((laterL ds kd ((tellOf ds kd s).map Deed.st)).map (rowD ds))), .dat (.list acc'), x15, x16, y17, x18, x19] ⟨_, _, _, _, _, _, _, _, _, _, _, _, rfl⟩
  have g1 : gOwn 14 (fLst (fCons (fVar 9) (fCons (fC .none) (fCons (fTup fNil) fNil)))) [.par (.list (ns.map PyData.int)), .dat (.int kk), .dat c, .dat (.tuple (ds.map dD)), .dat (.list ((orderOf ds).map dS)), .dat j, .dat (dS s), .dat (.str kd), .dat (dOD (tellOf ds kd s)), .dat (paperD ds kd s), .dat (.list ((ds.filter (isMk kd)).map dD)), x11, .dat (.list ((laterL ds kd ((tellOf ds kd s).map Deed.st)).map dD)), .dat (.tuple ((laterL ds kd ((tellOf ds kd s).map Deed.st)).map (rowD ds))), x14, x15, x16, x17, x18, x19] = .nx [.par (.list (ns.map PyData.int)), .dat (.int kk), .dat c, .dat (.tuple (ds.map dD)), .dat (.list ((orderOf ds).map dS)), .dat j, .dat (dS s), .dat (.str kd), .dat (dOD (tellOf ds kd s)), .dat (paperD ds kd s), .dat (.list ((ds.filter (isMk kd)).map dD)), x11, .dat (.list ((laterL ds kd ((tellOf ds kd s).map Deed.st)).map dD)), .dat (.tuple ((laterL ds kd ((tellOf ds kd s).map Deed.st)).map (rowD ds))), .own (.list [paperD ds kd s, .none, .tuple []]), x15, x16, x17, x18, x19] := by
    simp only [gOwn_e, fLst_e, fCons_e, fVar_s, fVar_0, fC_e, fTup_e, fNil_e, Rs.ok_bind, List.length_cons, List.length_nil, Nat.zero_add, Nat.reduceAdd, f0, f3, need_true, So.of_ok, isCont, if_true, List.set_cons_succ, List.set_cons_zero]
  refine ⟨δ', ?_, hI⟩
  have hlk : ds.length ≤ 1000 := by omega
  have hcu := cutL_len ((laterL ds kd ((tellOf ds kd s).map Deed.st)).map (rowD ds)) (some 1) none
  simp only [List.length_map] at hcu
  unfold b3_law
  rw [gSeq_e, gSet_e]
  simp only [fCallF_e, fCons_e, fVar_s, fVar_0, fNil_e, Rs.ok_bind, e8, noX_ok_e, So.of_ok, then_nx, List.set_cons_succ, List.set_cons_zero]
  rw [gSeq_e, gSet_e]
  simp only [fCallF_e, fCons_e, fVar_s, fVar_0, fNil_e, Rs.ok_bind, e9, noX_ok_e, So.of_ok, then_nx, List.set_cons_succ, List.set_cons_zero]
  rw [gSeq_e, gSet_e, c5_e (by omega)]
  simp only [So.of_ok, then_nx, List.set_cons_succ, List.set_cons_zero]
  rw [gSeq_e, gSet_e, c4_e (by omega)]
  simp only [So.of_ok, then_nx, List.set_cons_succ, List.set_cons_zero]
  rw [gSeq_e, gSet_e, fCall_e, fCons_e, c3_e h (by omega) hs]
  simp only [fNil_e, Rs.ok_bind, g1_e, tupleD_l, Rs.of_some, So.of_ok, then_nx, List.set_cons_succ, List.set_cons_zero]
  rw [gSeq_e, gIf_f _ _ _ _ q, gNx_e, then_nx, gSeq_e, g1, then_nx]
  rw [gSeq_e, gOwn_e]
  simp only [fOp_e, fSn_s, fSn_0o, fLst_e, fCons_e, fTup_e, fC_e, fNil_e, Rs.ok_bind, List.length_cons, List.length_nil, Nat.zero_add, Nat.reduceAdd, f0, f2, need_true, fCallF_e, fVar_s, fVar_0, hi0, Rs.of_some, e90, noX_ok_e, a0 [paperD ds kd s, .none, .tuple []] [.tuple [.none, .tuple []], paperD ds kd r0] (by simp), So.of_ok, isCont, if_true, then_nx, List.set_cons_succ, List.set_cons_zero]
  rw [gSeq_e, gOwn_e]
  simp only [fOp_e, fSn_s, fSn_0o, fLst_e, fCons_e, fC_e, fNil_e, Rs.ok_bind, List.length_cons, List.length_nil, Nat.zero_add, Nat.reduceAdd, f1, need_true, fCallF_e, fVar_s, fVar_0, e9b, noX_ok_e, a0 ([paperD ds kd s, .none, .tuple []] ++ [.tuple [.none, .tuple []], paperD ds kd r0]) [paperD ds "bold" s] (by simp), Rs.of_some, So.of_ok, isCont, if_true, then_nx, List.set_cons_succ, List.set_cons_zero]
  rw [gSeq_e]
  unfold gApp
  simp only [List.getElem?_cons_succ, List.getElem?_cons_zero, fTup_e, fCons_e, fOp_e, fVar_s, fVar_0, fC_e, Rs.ok_bind, told0, Rs.of_some, fCall_e, c2_e hlk, fNil_e, g1_e, tupleD_l, List.length_cons, List.length_nil, Nat.zero_add, Nat.reduceAdd, f2, need_true, So.of_ok, show fits (([paperD ds kd s, .none, .tuple []] ++ [.tuple [.none, .tuple []], paperD ds kd r0] ++ [paperD ds "bold" s]).length + 1) = true from rfl, if_true, then_nx, List.set_cons_succ, List.set_cons_zero]
  rw [gSeq_e, gOwn_e]
  simp only [fOp_e, fSn_s, fSn_0o, fLst_e, fCons_e, fTup_e, fC_e, fNil_e, fSl_e, foSome_e, foNo_e, intOf_int, slD, fRev_e, revD, Rs.ok_bind, List.length_cons, List.length_nil, Nat.zero_add, Nat.reduceAdd, f2, need_true, fVar_s, fVar_0, told0, told1, Rs.of_some, a0 ([paperD ds kd s, .none, .tuple []] ++ [.tuple [.none, .tuple []], paperD ds kd r0] ++ [paperD ds "bold" s] ++ [.tuple [dO ((tellOf ds kd s).map Deed.st), .tuple ((laterL ds kd ((tellOf ds kd s).map Deed.st)).map (swD ds))]]) [.tuple [dO ((tellOf ds kd s).map Deed.st), .tuple (cutL ((laterL ds kd ((tellOf ds kd s).map Deed.st)).map (rowD ds)) (some 1) none)], .tuple [dO ((tellOf ds kd s).map Deed.st), .tuple ((laterL ds kd ((tellOf ds kd s).map Deed.st)).map (rowD ds)).reverse]] (by simp), So.of_ok, isCont, if_true, then_nx, List.set_cons_succ, List.set_cons_zero]
  rw [gSeq_e, gOwn_e]
  simp only [fOp_e, fSn_s, fSn_0o, fLst_e, fCons_e, fTup_e, fC_e, fNil_e, Rs.ok_bind, List.length_cons, List.length_nil, Nat.zero_add, Nat.reduceAdd, f1, f2, need_true, fVar_s, fVar_0, told0, told1, Rs.of_some, add_t ((laterL ds kd ((tellOf ds kd s).map Deed.st)).map (rowD ds)) ((laterL ds kd ((tellOf ds kd s).map Deed.st)).map (rowD ds)) (by simp; omega), a0 ([paperD ds kd s, .none, .tuple []] ++ [.tuple [.none, .tuple []], paperD ds kd r0] ++ [paperD ds "bold" s] ++ [.tuple [dO ((tellOf ds kd s).map Deed.st), .tuple ((laterL ds kd ((tellOf ds kd s).map Deed.st)).map (swD ds))]] ++ [.tuple [dO ((tellOf ds kd s).map Deed.st), .tuple (cutL ((laterL ds kd ((tellOf ds kd s).map Deed.st)).map (rowD ds)) (some 1) none)], .tuple [dO ((tellOf ds kd s).map Deed.st), .tuple ((laterL ds kd ((tellOf ds kd s).map Deed.st)).map (rowD ds)).reverse]]) [.tuple [dO ((tellOf ds kd s).map Deed.st), .tuple (((laterL ds kd ((tellOf ds kd s).map Deed.st)).map (rowD ds)) ++ ((laterL ds kd ((tellOf ds kd s).map Deed.st)).map (rowD ds)))]] (by simp), So.of_ok, isCont, if_true, then_nx, List.set_cons_succ, List.set_cons_zero]
  rw [gSeq_e, gOwn_e]
  simp only [fOp_e, fSn_s, fSn_0o, c1_e hlk, Rs.ok_bind, a0 ([paperD ds kd s, .none, .tuple []] ++ [.tuple [.none, .tuple []], paperD ds kd r0] ++ [paperD ds "bold" s] ++ [.tuple [dO ((tellOf ds kd s).map Deed.st), .tuple ((laterL ds kd ((tellOf ds kd s).map Deed.st)).map (swD ds))]] ++ [.tuple [dO ((tellOf ds kd s).map Deed.st), .tuple (cutL ((laterL ds kd ((tellOf ds kd s).map Deed.st)).map (rowD ds)) (some 1) none)], .tuple [dO ((tellOf ds kd s).map Deed.st), .tuple ((laterL ds kd ((tellOf ds kd s).map Deed.st)).map (rowD ds)).reverse]] ++ [.tuple [dO ((tellOf ds kd s).map Deed.st), .tuple (((laterL ds kd ((tellOf ds kd s).map Deed.st)).map (rowD ds)) ++ ((laterL ds kd ((tellOf ds kd s).map Deed.st)).map (rowD ds)))]]) ((laterL ds kd ((tellOf ds kd s).map Deed.st)).map onD) (by simp; omega), Rs.of_some, So.of_ok, isCont, if_true, then_nx, List.set_cons_succ, List.set_cons_zero]
  rw [gSeq_e, gFor_e, e6]
  unfold someL at hb2
  rw [So.of_ok, hb2, then_nx, gSeq_e]
  unfold gFrz
  simp only [List.getElem?_cons_succ, List.getElem?_cons_zero, List.set_cons_succ, List.set_cons_zero, then_nx]
  rw [gFor_e, fIt_e]
  simp only [fVar_s, fVar_0, Rs.ok_bind, itemsOf, Rs.of_some, So.of_ok]
  exact hb1
end
section
variable {ds : List Deed}
def I5 (ns : List Int) (kk : Nat) (c : Int) (ds : List Deed) (δ : Dl) : Prop := ∃ x5 x6 x7 x8 x9 x10 x11 x12 x13 x14 x15 x16 x17 x18 x19, δ = [.par (.list (ns.map PyData.int)), .dat (.int kk), .dat (.int c), .dat (.tuple (ds.map dD)), .dat (.list ((orderOf ds).map dS)), x5, x6, x7, x8, x9, x10, x11, x12, x13, x14, x15, x16, x17, x18, x19]
def I1 (ns : List Int) (δ : Dl) : Prop := ∃ x1 x2 x3 x4 x5 x6 x7 x8 x9 x10 x11 x12 x13 x14 x15 x16 x17 x18 x19, δ = [.par (.list (ns.map PyData.int)), x1, x2, x3, x4, x5, x6, x7, x8, x9, x10, x11, x12, x13, x14, x15, x16, x17, x18, x19]
def I6 (ns : List Int) (kk : Nat) (c : Int) (ds : List Deed) (jj : Nat) (s : Stm) (δ : Dl) : Prop := ∃ x7 x8 x9 x10 x11 x12 x13 x14 x15 x16 x17 x18 x19, δ = [.par (.list (ns.map PyData.int)), .dat (.int kk), .dat (.int c), .dat (.tuple (ds.map dD)), .dat (.list ((orderOf ds).map dS)), .dat (.int jj), .dat (dS s), x7, x8, x9, x10, x11, x12, x13, x14, x15, x16, x17, x18, x19]
theorem b4_ok {ns : List Int} {kk jj : Nat} {c : Int} (h : Fine ds) (h0 : ∀ d ∈ ds, 0 < d.st.1) (hN : ∀ d ∈ ds, d.st.2.length ≤ 1000) (hl : ds.length ≤ 30) (hne : 0 < (orderOf ds).length) (δ : Dl) (hi : I5 ns kk c ds δ) : ∃ δ2, b4_law (δ.set 5 (.dat (.int jj))) = .nx δ2 ∧ I5 ns kk c ds δ2 := by
  obtain ⟨x5, x6, x7, x8, x9, x10, x11, x12, x13, x14, x15, x16, x17, x18, x19, rfl⟩ := hi
  simp only [List.set_cons_succ, List.set_cons_zero]
  obtain ⟨c6, hc6⟩ := F_cell ns 6
  have hc6 : Fn.F__law_cell [.list (ns.map PyData.int), .int 6] = .ok (.int c6) := hc6
  have m7 : mulD (.int 7) (.int jj) = some (.int (7 * jj)) := mulD_sm' _ _ (by decide)
  have hm := F_mix (c6 + 7 * jj + kk) 9829 (orderOf ds).length (by decide) (by decide) (by omega)
  obtain ⟨r1, r2⟩ := mix_range (c6 + 7 * jj + kk) 9829 (orderOf ds).length (by omega)
  obtain ⟨s, hs, hix⟩ := atI_mem (orderOf ds) _ r1 r2
  have hix : ixD (.list ((orderOf ds).map dS)) (.int (mix (c6 + 7 * jj + kk) 9829 (orderOf ds).length)) = some (dS s) := by
    show atI ((orderOf ds).map dS) _ = _
    rw [atI_nat _ _ r1] at hix ⊢
    rw [List.getElem?_map, hix]
    rfl
  have hsl : s ∈ letS ds := h.sub s hs
  have f2 : fits 2 = true := rfl
  obtain ⟨δ', hlp, hI⟩ := forS_inv (I := I6 ns kk c ds jj s) (ft := ftN 7) (gb := b3_law) [.str "bold", .str "link"] (fun x hx δ hδ => by
    obtain ⟨x7, x8, x9, x10, x11, x12, x13, x14, x15, x16, x17, x18, x19, rfl⟩ := hδ
    have hk : ∃ kd : Str, x = .str kd := by
      simp at hx
      rcases hx with rfl | rfl
      · exact ⟨_, rfl⟩
      · exact ⟨_, rfl⟩
    obtain ⟨kd, rfl⟩ := hk
    obtain ⟨δ2, h1, h2⟩ := b3_ok (ns := ns) (kk := kk) (kd := kd) (c := .int c) (j := .int jj) h h0 hN hl hsl x8 x9 x10 x11 x12 x13 x14 x15 x16 x17 x18 x19
    refine ⟨_, δ2, rfl, h1, ?_⟩
    obtain ⟨y8, y9, y10, y11, y12, y13, y14, y15, y16, y17, y18, y19, rfl⟩ := h2
    exact ⟨_, _, _, _, _, _, _, _, _, _, _, _, _, rfl⟩) [.par (.list (ns.map PyData.int)), .dat (.int kk), .dat (.int c), .dat (.tuple (ds.map dD)), .dat (.list ((orderOf ds).map dS)), .dat (.int jj), .dat (dS s), x7, x8, x9, x10, x11, x12, x13, x14, x15, x16, x17, x18, x19] ⟨_, _, _, _, _, _, _, _, _, _, _, _, _, rfl⟩
  obtain ⟨y7, y8, y9, y10, y11, y12, y13, y14, y15, y16, y17, y18, y19, rfl⟩ := hI
  have e : b4_law [.par (.list (ns.map PyData.int)), .dat (.int kk), .dat (.int c), .dat (.tuple (ds.map dD)), .dat (.list ((orderOf ds).map dS)), .dat (.int jj), x6, x7, x8, x9, x10, x11, x12, x13, x14, x15, x16, x17, x18, x19] = .nx [.par (.list (ns.map PyData.int)), .dat (.int kk), .dat (.int c), .dat (.tuple (ds.map dD)), .dat (.list ((orderOf ds).map dS)), .dat (.int jj), .dat (dS s), y7, y8, y9, y10, y11, y12, y13, y14, y15, y16, y17, y18, y19] := by
    simp only [b4_law, gSeq_e, gSet_e, fOp_e, fVar_s, fVar_0, Rs.ok_bind, fCallF_e, fCons_e, fSn_0p, fC_e, fNil_e, hc6, noX_ok_e, m7, Rs.of_some, addD_i, fCall_e, g1_e, lenD_l, List.length_map, hm, hix, So.of_ok, then_nx, List.set_cons_succ, List.set_cons_zero, gFor_e, fIt_e, fTup_e, List.length_cons, List.length_nil, Nat.zero_add, Nat.reduceAdd, f2, need_true, itemsOf, hlp]
  exact ⟨_, e, ⟨_, _, _, _, _, _, _, _, _, _, _, _, _, _, _, rfl⟩⟩
theorem b5_ok (ns : List Int) (k : Nat) (δ : Dl) (hi : I1 ns δ) : ∃ δ2, b5_law (δ.set 1 (.dat (.int k))) = .nx δ2 ∧ I1 ns δ2 := by
  obtain ⟨x1, x2, x3, x4, x5, x6, x7, x8, x9, x10, x11, x12, x13, x14, x15, x16, x17, x18, x19, rfl⟩ := hi
  simp only [List.set_cons_succ, List.set_cons_zero]
  obtain ⟨c0, hc0⟩ := F_cell ns k
  have hmx := F_mix (c0 + 3 * k) 9833 25 (by decide) (by decide) (by decide)
  obtain ⟨ds, hd, hR, hlen⟩ := draw_row (c0 + 3 * k) 25 (by decide) (by decide)
  have hlen : ds.length < 25 := hlen
  have h := hR.fine
  have h0 : ∀ d ∈ ds, 0 < d.st.1 := fun d hd => (hR.stok d hd).1
  have hN : ∀ d ∈ ds, d.st.2.length ≤ 1000 := fun d hd => by
    rcases (hR.stok d hd).2 with e | e | e <;> rw [e] <;> decide +kernel
  have hol := h.olen
  have hor := laworder30 h (by omega)
  have hmin : minD (.int 3) (.int (orderOf ds).length) = some (.int ((min 3 (orderOf ds).length : Nat) : Int)) := by
    show some (PyData.int (if ((orderOf ds).length : Int) < 3 then ((orderOf ds).length : Int) else 3)) = _
    congr 2
    split <;> omega
  obtain ⟨δ', hlp, hI⟩ := forS_inv (I := I5 ns k (c0 + 3 * k) ds) (ft := ftN 5) (gb := b4_law) (rangeD 0 (min 3 (orderOf ds).length)) (fun x hx δ hδ => by
    obtain ⟨jj, hj, rfl⟩ := rangeD_mem hx
    obtain ⟨δ2, h1, h2⟩ := b4_ok (jj := jj) h h0 hN (by omega) (by omega) δ hδ
    exact ⟨_, δ2, rfl, h1, h2⟩) [.par (.list (ns.map PyData.int)), .dat (.int k), .dat (.int (c0 + 3 * k)), .dat (.tuple (ds.map dD)), .dat (.list ((orderOf ds).map dS)), x5, x6, x7, x8, x9, x10, x11, x12, x13, x14, x15, x16, x17, x18, x19] ⟨_, _, _, _, _, _, _, _, _, _, _, _, _, _, _, rfl⟩
  have er : rng1 (fCall (g2 minD) (fCons (fC (.int 3)) (fCons (fCall (g1 lenD) (fCons (fVar 4) fNil)) fNil))) [.par (.list (ns.map PyData.int)), .dat (.int k), .dat (.int (c0 + 3 * k)), .dat (.tuple (ds.map dD)), .dat (.list ((orderOf ds).map dS)), x5, x6, x7, x8, x9, x10, x11, x12, x13, x14, x15, x16, x17, x18, x19] = .ok (rangeD 0 (min 3 (orderOf ds).length)) := by
    refine rng1_ok _ (by omega) ?_
    simp only [fCall_e, fCons_e, fC_e, fVar_s, fVar_0, fNil_e, Rs.ok_bind, g1_e, lenD_l, List.length_map, Rs.of_some]
    show Rs.of (minD (.int 3) (.int (orderOf ds).length)) = _
    rw [hmin]; rfl
  obtain ⟨y5, y6, y7, y8, y9, y10, y11, y12, y13, y14, y15, y16, y17, y18, y19, rfl⟩ := hI
  have e : b5_law [.par (.list (ns.map PyData.int)), .dat (.int k), x2, x3, x4, x5, x6, x7, x8, x9, x10, x11, x12, x13, x14, x15, x16, x17, x18, x19] = .nx [.par (.list (ns.map PyData.int)), .dat (.int k), .dat (.int (c0 + 3 * k)), .dat (.tuple (ds.map dD)), .dat (.list ((orderOf ds).map dS)), y5, y6, y7, y8, y9, y10, y11, y12, y13, y14, y15, y16, y17, y18, y19] := by
    simp only [b5_law, gSeq_e, gSet_e, fOp_e, fCallF_e, fCons_e, fSn_0p, fVar_s, fVar_0, fNil_e, fC_e, Rs.ok_bind, hc0, noX_ok_e, mul3, Rs.of_some, addD_i, So.of_ok, then_nx, List.set_cons_succ, List.set_cons_zero, hmx, hd, hor, gFor_e, er, hlp]
  exact ⟨_, e, ⟨_, _, _, _, _, _, _, _, _, _, _, _, _, _, _, _, _, _, _, rfl⟩⟩
def one1 : List Deed := [.write (1, "a") none "x"]
theorem fine_one : Fine one1 := Fine.snoc (ds := []) fine_nil (fun e he => by simp at he) ⟨(fun t ht => by cases ht), rfl⟩
theorem law_true (ns : List Int) (h : ns.length ≤ 63) : F_law [.list (ns.map PyData.int)] = .ok (.bool true) := by
  show So.fin (g_law [.par (.list (ns.map PyData.int)), .no, .no, .no, .no, .no, .no, .no, .no, .no, .no, .no, .no, .no, .no, .no, .no, .no, .no, .no]) = _
  obtain ⟨δ', hlp, hI⟩ := forS_inv (I := I1 ns) (ft := ftN 1) (gb := b5_law) (rangeD 0 6) (fun x hx δ hδ => by
    obtain ⟨k, hk, rfl⟩ := rangeD_mem hx
    obtain ⟨δ2, h1, h2⟩ := b5_ok ns k δ hδ
    exact ⟨_, δ2, rfl, h1, h2⟩) [.par (.list (ns.map PyData.int)), .no, .no, .no, .no, .no, .no, .no, .no, .no, .no, .no, .no, .no, .no, .no, .no, .no, .no, .no] ⟨_, _, _, _, _, _, _, _, _, _, _, _, _, _, _, _, _, _, _, rfl⟩
  obtain ⟨x1, x2, x3, x4, x5, x6, x7, x8, x9, x10, x11, x12, x13, x14, x15, x16, x17, x18, x19, rfl⟩ := hI
  have e0 : ∀ δ, rng1 (fC (.int 6)) δ = .ok (rangeD 0 6) := fun δ => rng1_ok 6 (by decide) rfl
  have hp := F_paper fine_one (by decide) (s := (1, "a")) (by decide +kernel) "bold"
  have hpe : paperD one1 "bold" (1, "a") = .tuple [.none, .tuple []] := rfl
  rw [hpe] at hp
  have hp : Fn.F_paper [.tuple [.tuple [.str "write", .tuple [.int 1, .str "a"], .none, .str "x"]], .tuple [.int 1, .str "a"], .str "bold"] = .ok (.tuple [.none, .tuple []]) := hp
  have f0 : fits 0 = true := rfl
  have f1 : fits 1 = true := rfl
  have f2 : fits 2 = true := rfl
  have f4 : fits 4 = true := rfl
  have he : eqD (.tuple [.none, .tuple []]) (.tuple [.none, .tuple []]) = some (.bool true) := rfl
  simp only [g_law, gSeq_e, gFor_e, e0, So.of_ok, hlp, then_nx, gRet_e, fOp_e, fCallF_e, fCons_e, fTup_e, fC_e, fNil_e, Rs.ok_bind, List.length_cons, List.length_nil, Nat.zero_add, Nat.reduceAdd, f0, f1, f2, f4, need_true, hp, noX_ok_e, he, Rs.of_some, fin_rt]
end
end K04
namespace K04
open PySem PySem.Spec PyProof.Rows L2 Hm
abbrev R : PySem.W.OpenRow := PySem.W.OpenLaw.row PySem.Challenge.rw_handmarks_k04_papers
def dfs : List (Str × Stmt) := [("order", s_order), ("counts", s_counts), ("is_covered", s_is_covered), ("places_of", s_places_of), ("covers", s_covers), ("marks_of", s_marks_of), ("first_telling", s_first_telling), ("counting_marks", s_counting_marks), ("teller", s_teller), ("later_marks", s_later_marks), ("paper", s_paper), ("is_row", s_is_row), ("is_paper", s_is_paper), ("_law_cell", s__law_cell), ("_law_mix", s__law_mix), ("_law_same", s__law_same), ("_law_letter", s__law_letter), ("_law_value", s__law_value), ("_law_deeds", s__law_deeds), ("_law_order", s__law_order), ("_law_counts", s__law_counts), ("_law_covers", s__law_covers), ("_law_teller", s__law_teller), ("_law_odd", s__law_odd), ("_law_why", s__law_why), ("_law_is_paper", s__law_is_paper), ("law", s_law)]
def cf : Cfg := { df := dfs, fa := [.free "all", .free "bool", .free "dict", .free "enumerate", .free "int", .free "isinstance", .free "len", .free "list", .free "max", .free "min", .free "range", .free "sorted", .free "str", .free "tuple", .free "zip"], tu := [], di := [] }
abbrev hk : PySem.W.Hook := hookX 5 cf
def ob (s : PySem.W.SharedT) : AlX := obsXG 5 cf (HandSHeadRun.getT s)
theorem ob_eq (s : PySem.W.SharedT) : ob s = hk.obs s.abs := obsXG_eq (HandSHeadRun.getT_eq s)
def loose0 : List Str := ["order", "counts", "is_covered", "places_of", "covers", "marks_of", "first_telling", "counting_marks", "teller", "later_marks", "paper", "is_row", "is_paper", "_law_cell", "_law_mix", "_law_same", "_law_letter", "_law_value", "_law_deeds", "_law_order", "_law_counts", "_law_covers", "_law_teller", "_law_odd", "_law_why", "_law_is_paper"]
def loose : List Str := loose0
set_option maxHeartbeats 0 in
theorem run (w : World) : HandSHeadRun.RunEq R (PySem.W.view R.prog [30]) hk ob 4000 loose w := by
  refine PySem.W.byRow2 "special-get-raises" (P := fun w => HandSHeadRun.RunEq R (PySem.W.view R.prog [30]) hk ob 4000 loose w) ?_ ?_ w
  · intro w os
    kernel_rfl
  · intro w os
    kernel_rfl
theorem txt {w : World} {mg : Str → Option Value} {h : Heap} {K : PySem.W.Frag} (X : K.In h) (G : h.Ns mainGlobals mg) (s : SaysX cf w K) : Txt K w mg where
  d_order := s.df X G 0 rfl fun _ _ _ _ _ _ us hl => match us, hl with | [_], _ => rfl
  d_counts := s.df X G 1 rfl fun _ _ _ _ _ _ us hl => match us, hl with | [_, _], _ => rfl
  d_is_covered := s.df X G 2 rfl fun _ _ _ _ _ _ us hl => match us, hl with | [_, _, _], _ => rfl
  d_places_of := s.df X G 3 rfl fun _ _ _ _ _ _ us hl => match us, hl with | [_], _ => rfl
  d_covers := s.df X G 4 rfl fun _ _ _ _ _ _ us hl => match us, hl with | [_, _, _], _ => rfl
  d_marks_of := s.df X G 5 rfl fun _ _ _ _ _ _ us hl => match us, hl with | [_, _], _ => rfl
  d_first_telling := s.df X G 6 rfl fun _ _ _ _ _ _ us hl => match us, hl with | [_, _, _], _ => rfl
  d_counting_marks := s.df X G 7 rfl fun _ _ _ _ _ _ us hl => match us, hl with | [_, _], _ => rfl
  d_teller := s.df X G 8 rfl fun _ _ _ _ _ _ us hl => match us, hl with | [_, _, _], _ => rfl
  d_later_marks := s.df X G 9 rfl fun _ _ _ _ _ _ us hl => match us, hl with | [_, _, _], _ => rfl
  d_paper := s.df X G 10 rfl fun _ _ _ _ _ _ us hl => match us, hl with | [_, _, _], _ => rfl
  d_is_row := s.df X G 11 rfl fun _ _ _ _ _ _ us hl => match us, hl with | [_, _, _, _], _ => rfl
  d_is_paper := s.df X G 12 rfl fun _ _ _ _ _ _ us hl => match us, hl with | [_, _, _, _], _ => rfl
  d__law_cell := s.df X G 13 rfl fun _ _ _ _ _ _ us hl => match us, hl with | [_, _], _ => rfl
  d__law_mix := s.df X G 14 rfl fun _ _ _ _ _ _ us hl => match us, hl with | [_, _, _], _ => rfl
  d__law_same := s.df X G 15 rfl fun _ _ _ _ _ _ us hl => match us, hl with | [_, _], _ => rfl
  d__law_letter := s.df X G 16 rfl fun _ _ _ _ _ _ us hl => match us, hl with | [_], _ => rfl
  d__law_value := s.df X G 17 rfl fun _ _ _ _ _ _ us hl => match us, hl with | [_, _], _ => rfl
  d__law_deeds := s.df X G 18 rfl fun _ _ _ _ _ _ us hl => match us, hl with | [_, _], _ => rfl
  d__law_order := s.df X G 19 rfl fun _ _ _ _ _ _ us hl => match us, hl with | [_, _], _ => rfl
  d__law_counts := s.df X G 20 rfl fun _ _ _ _ _ _ us hl => match us, hl with | [_, _], _ => rfl
  d__law_covers := s.df X G 21 rfl fun _ _ _ _ _ _ us hl => match us, hl with | [_, _, _], _ => rfl
  d__law_teller := s.df X G 22 rfl fun _ _ _ _ _ _ us hl => match us, hl with | [_, _, _, _], _ => rfl
  d__law_odd := s.df X G 23 rfl fun _ _ _ _ _ _ us hl => match us, hl with | [_, _], _ => rfl
  d__law_why := s.df X G 24 rfl fun _ _ _ _ _ _ us hl => match us, hl with | [_, _, _, _], _ => rfl
  d__law_is_paper := s.df X G 25 rfl fun _ _ _ _ _ _ us hl => match us, hl with | [_, _, _, _, _], _ => rfl
  d_law := s.df X G 26 rfl fun _ _ _ _ _ _ us hl => match us, hl with | [_], _ => rfl
  z_all := s.free X G 0 rfl
  z_bool := s.free X G 1 rfl
  z_dict := s.free X G 2 rfl
  z_enumerate := s.free X G 3 rfl
  z_int := s.free X G 4 rfl
  z_isinstance := s.free X G 5 rfl
  z_len := s.free X G 6 rfl
  z_list := s.free X G 7 rfl
  z_max := s.free X G 8 rfl
  z_min := s.free X G 9 rfl
  z_range := s.free X G 10 rfl
  z_sorted := s.free X G 11 rfl
  z_str := s.free X G 12 rfl
  z_tuple := s.free X G 13 rfl
  z_zip := s.free X G 14 rfl
end K04
open PySem PySem.W PySem.Calls PyProof.Rows
set_option maxHeartbeats 0 in
theorem PySem.Challenge.cw_handmarks_k04_papers_holds : PySem.Challenge.rw_handmarks_k04_papers.Holds := by
  w_on; o_law
  refine HandSHeadRun.head_any (r := OpenLaw.row PySem.Challenge.rw_handmarks_k04_papers) (q := view (OpenLaw.row PySem.Challenge.rw_handmarks_k04_papers).prog [30]) (H := K04.hk) (ob := K04.ob) (M := 4000) (loose := K04.loose) (d := HandSHeadRun.topDef (OpenLaw.row PySem.Challenge.rw_handmarks_k04_papers).prog 30) (kwd := []) K04.ob_eq
    (by kernel_rfl) (fun s => by kernel_rfl) K04.run (by kernel_rfl) (by kernel_rfl) (by kernel_rfl) (by rfl) (by first | assumption | decide +kernel) (by decide +kernel) ⟨rfl, rfl, rfl, rfl, rfl, by decide +kernel⟩ ?hw ?hc
  case hw => w_witness2
  case hc =>
    exact Hm.law_endX (l := PySem.Challenge.rw_handmarks_k04_papers) (k := 31) (F := K04.F_law) rfl (by kernel_rfl) ⟨rfl, by decide, by decide⟩ (by kernel_rfl) K04.law_true fun w mg h K X G s => K04.ok_law (K04.txt X G s)
#print axioms PySem.Challenge.cw_handmarks_k04_papers_holds
